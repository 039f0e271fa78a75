import PyProof.Rows.All
import Wide.All
import OpenK.AllK
import Wide.FinOn
import HandS.ForMost
import HandS.Wide
import HandS.Gcd
import HandS.Flow
import HandS.IsInst
import HandS.HeadHook1
import HandS.TupAny
import HandS.TupMul
import HandS.Deep
import HandS.Style
import HandS.RaiseMore
import HandS.Defaults
import HandS.EndBits
import KE.KStateDown
import HandS.Head0
import HandS.Head1
import HandS.Head2
import HandS.Head3
import HandS.HeadHook2
import HandS.Comp
import HandS.Iter
import HandS.Zip
import HandS.RevTup
import KE.GoesMore
import KE.GoesEnum
import HandS.Flt
import HandS.TryOnly
import HandS.ExcInit
import KE.KExcInit
import HandS.ExcField
import HandS.TryMany
import KE.KExcIs
import PySem.Challenge.RW_twicestep_k01_numbers_of_any_values
set_option Elab.async false
set_option linter.all false
set_option maxRecDepth 100000
set_option maxHeartbeats 4000000
/-! DL1: data without a heap, what stands for it, the frame of a deed, the readings of expressions and statements over data. -/
namespace DL
open PySem L2

/-- data: tuples and lists by value; ref: a thing known by its address alone -/
inductive D where
  | non | bl (b : Bool) | int (i : Int) | str (s : Str) | tup (xs : List D) | lst (xs : List D) | ref (a : Addr) | dic (ks : List Key) (vs : List D)

mutual
inductive Is (K : PySem.W.Frag) (F : Hp) : V → D → Prop
  | non : Is K F .non .non
  | bl (b : Bool) : Is K F (.bl b) (.bl b)
  | int (i : Int) : Is K F (.int i) (.int i)
  | str (x : Str) : Is K F (.str x) (.str x)
  | ref (a : Addr) : Is K F (.ref a) (.ref a)
  | tup {a : Addr} {xs : List V} {ds : List D} : SqT K F a xs → IsAll K F xs ds → Is K F (.ref a) (.tup ds)
  | lst {a : Addr} {xs : List V} {ds : List D} : F a = some (.lst xs) → IsAll K F xs ds → Is K F (.ref a) (.lst ds)
  | dic {a : Addr} {ks : List Key} {xs : List V} {ds : List D} : F a = some (.dK (ks.zip xs)) → ks.length = xs.length → IsAll K F xs ds → Is K F (.ref a) (.dic ks ds)
inductive IsAll (K : PySem.W.Frag) (F : Hp) : List V → List D → Prop
  | nil : IsAll K F [] []
  | cons {v : V} {vs : List V} {d : D} {ds : List D} : Is K F v d → IsAll K F vs ds → IsAll K F (v :: vs) (d :: ds)
end

def Ex (H H' : Hp) : Prop := ∀ a o, H a = some o → H' a = some o
theorem Ex.refl (H : Hp) : Ex H H := fun _ _ h => h
theorem Ex.trans {H H1 H2 : Hp} (a : Ex H H1) (b : Ex H1 H2) : Ex H H2 := fun x o h => b x o (a x o h)
theorem Ex.sqL {K : PySem.W.Frag} {H H' : Hp} {a : Addr} {xs : List V} (e : Ex H H') (h : SqL K H a xs) : SqL K H' a xs := by
  rcases h with (h | ⟨o, h⟩) | h
  · exact .inl (.inl (e _ _ h))
  · exact .inl (.inr ⟨o, e _ _ h⟩)
  · exact .inr h
theorem Ex.sqT {K : PySem.W.Frag} {H H' : Hp} {a : Addr} {xs : List V} (e : Ex H H') (h : SqT K H a xs) : SqT K H' a xs := by
  rcases h with (h | ⟨o, h⟩) | h
  · exact .inl (.inl (e _ _ h))
  · exact .inl (.inr ⟨o, e _ _ h⟩)
  · exact .inr h
section
variable {K : PySem.W.Frag} {F F' : Hp}
mutual
theorem Is.mono (e : Ex F F') : ∀ (d : D) (v : V), Is K F v d → Is K F' v d
  | .non, _, h => by cases h; exact .non
  | .bl b, _, h => by cases h; exact .bl b
  | .int i, _, h => by cases h; exact .int i
  | .str x, _, h => by cases h; exact .str x
  | .ref a, _, h => by cases h; exact .ref a
  | .tup ds, _, h => by
    cases h with
    | tup h1 h2 => exact .tup (e.sqT h1) (IsAll.mono e ds _ h2)
  | .lst ds, _, h => by
    cases h with
    | lst h1 h2 => exact .lst (e _ _ h1) (IsAll.mono e ds _ h2)
  | .dic ks ds, _, h => by
    cases h with
    | dic h1 h0 h2 => exact .dic (e _ _ h1) h0 (IsAll.mono e ds _ h2)
theorem IsAll.mono (e : Ex F F') : ∀ (ds : List D) (vs : List V), IsAll K F vs ds → IsAll K F' vs ds
  | [], _, h => by cases h; exact .nil
  | d :: ds, _, h => by
    cases h with
    | cons h1 h2 => exact .cons (Is.mono e d _ h1) (IsAll.mono e ds _ h2)
end
theorem Is.up {v : V} {d : D} (h : Is K F v d) (e : Ex F F') : Is K F' v d := Is.mono e d v h
theorem IsAll.up {vs : List V} {ds : List D} (h : IsAll K F vs ds) (e : Ex F F') : IsAll K F' vs ds := IsAll.mono e ds vs h
theorem IsAll.length {vs : List V} {ds : List D} (h : IsAll K F vs ds) : vs.length = ds.length := by
  induction ds generalizing vs with
  | nil => cases h; rfl
  | cons d ds ih => cases h with | cons h1 h2 => rw [List.length_cons, List.length_cons, ih h2]
theorem IsAll.get {vs : List V} {ds : List D} (h : IsAll K F vs ds) : ∀ {i : Nat} {d : D}, ds[i]? = some d → ∃ v, vs[i]? = some v ∧ Is K F v d := by
  induction ds generalizing vs with
  | nil => intro i d e; simp at e
  | cons d ds ih =>
    cases h with
    | cons h1 h2 =>
      intro i d' e
      cases i with
      | zero =>
        rw [List.getElem?_cons_zero] at e
        cases e
        exact ⟨_, rfl, h1⟩
      | succ i =>
        rw [List.getElem?_cons_succ] at e
        obtain ⟨v, e1, e2⟩ := ih h2 e
        exact ⟨v, by rw [List.getElem?_cons_succ]; exact e1, e2⟩
theorem IsAll.getV {vs : List V} {ds : List D} (h : IsAll K F vs ds) {i : Nat} {v : V} (e : vs[i]? = some v) : ∃ d, ds[i]? = some d ∧ Is K F v d := by
  have hl := h.length
  have hi := (List.getElem?_eq_some_iff.mp e).1
  obtain ⟨w, e1, e2⟩ := h.get (List.getElem?_eq_getElem (show i < ds.length by omega))
  rw [e] at e1
  cases e1
  exact ⟨_, List.getElem?_eq_getElem (show i < ds.length by omega), e2⟩
theorem IsAll.append {vs ws : List V} {ds es : List D} (h : IsAll K F vs ds) (h' : IsAll K F ws es) : IsAll K F (vs ++ ws) (ds ++ es) := by
  induction ds generalizing vs with
  | nil => cases h; exact h'
  | cons d ds ih => cases h with | cons h1 h2 => exact .cons h1 (ih h2)
theorem IsAll.drop {vs : List V} {ds : List D} (h : IsAll K F vs ds) : ∀ n : Nat, IsAll K F (vs.drop n) (ds.drop n) := by
  induction ds generalizing vs with
  | nil => cases h; intro n; simp; exact .nil
  | cons d ds ih =>
    cases h with
    | cons h1 h2 =>
      intro n
      cases n with
      | zero => exact .cons h1 h2
      | succ n => exact ih h2 n
theorem IsAll.take {vs : List V} {ds : List D} (h : IsAll K F vs ds) : ∀ n : Nat, IsAll K F (vs.take n) (ds.take n) := by
  induction ds generalizing vs with
  | nil => cases h; intro n; simp; exact .nil
  | cons d ds ih =>
    cases h with
    | cons h1 h2 =>
      intro n
      cases n with
      | zero => exact .nil
      | succ n => exact .cons h1 (ih h2 n)
theorem IsAll.set {vs : List V} {ds : List D} (h : IsAll K F vs ds) {v : V} {d : D} (hd : Is K F v d) : ∀ i : Nat, IsAll K F (vs.set i v) (ds.set i d) := by
  induction ds generalizing vs with
  | nil => cases h; intro i; exact .nil
  | cons d ds ih =>
    cases h with
    | cons h1 h2 =>
      intro i
      cases i with
      | zero => exact .cons hd h2
      | succ i => exact .cons h1 (ih h2 i)
theorem IsAll.reverse {vs : List V} {ds : List D} (h : IsAll K F vs ds) : IsAll K F vs.reverse ds.reverse := by
  induction ds generalizing vs with
  | nil => cases h; exact .nil
  | cons d ds ih =>
    cases h with
    | cons h1 h2 =>
      rw [List.reverse_cons, List.reverse_cons]
      exact (ih h2).append (.cons h1 .nil)
theorem IsAll.replicate {v : V} {d : D} (h : Is K F v d) : ∀ n : Nat, IsAll K F (List.replicate n v) (List.replicate n d)
  | 0 => .nil
  | n + 1 => .cons h (IsAll.replicate h n)
theorem IsAll.ints : ∀ ns : List Int, IsAll K F (ns.map V.int) (ns.map D.int)
  | [] => .nil
  | n :: ns => .cons (.int n) (IsAll.ints ns)
end

/-! ### the frame of a deed -/
/-- the deck, if one stands: the name of its list, its dict's address, its list's -/
abbrev Gd := Option (Str × Addr × Addr)
def Gd.M : Gd → Addr → Prop
  | none, _ => False
  | some (_, d, l), a => a = d ∨ a = l
def DeckAt (nm : Str) (d l : Addr) (H : Hp) : Prop :=
  ∃ (cs : List Int) (mixed draws : Int), H d = some (.dK [(.inr nm, .ref l), (.inr "mixed", .int mixed), (.inr "draws", .int draws)]) ∧ H l = some (.lst (cs.map V.int)) ∧ cs.length ≤ 63 ∧ (-(2 ^ 40) < mixed ∧ mixed < 2 ^ 40) ∧ d ≠ l
def Gd.J : Gd → Hp → Prop
  | none, _ => True
  | some (nm, d, l), H => DeckAt nm d l H
theorem Gd.J.loc {g : Gd} {H H' : Hp} (h : ∀ a, g.M a → H' a = H a) (j : g.J H) : g.J H' := by
  cases g with
  | none => trivial
  | some t =>
    obtain ⟨nm, d, l⟩ := t
    obtain ⟨cs, mi, dr, h1, h2, h3, h4, h5⟩ := j
    exact ⟨cs, mi, dr, (h d (.inl rfl)).trans h1, (h l (.inr rfl)).trans h2, h3, h4, h5⟩
theorem Gd.J.has {g : Gd} {H : Hp} (j : g.J H) {a : Addr} (m : g.M a) : H a ≠ none := by
  cases g with
  | none => exact m.elim
  | some t =>
    obtain ⟨nm, d, l⟩ := t
    obtain ⟨cs, mi, dr, h1, h2, h3, h4⟩ := j
    rcases m with rfl | rfl
    · rw [h1]; exact fun z => by cases z
    · rw [h2]; exact fun z => by cases z

/-- from (H0, F0) to (H, F): H the heap, F the part of it that nobody writes any more -/
structure Fr (g : Gd) (H0 F0 H F : Hp) : Prop where
  pre : ∀ a o, ¬ g.M a → H0 a = some o → H a = some o
  j : g.J H
  sub : Ex F H
  f0 : Ex F0 F
  old : ∀ a, H0 a ≠ none → F a = F0 a
  nm : ∀ a, g.M a → F a = none ∧ H0 a ≠ none
section
variable {g : Gd} {H0 F0 H F H1 F1 : Hp}
theorem Fr.there (r : Fr g H0 F0 H F) {a : Addr} (h : H0 a ≠ none) : H a ≠ none := by
  by_cases hm : g.M a
  · exact r.j.has hm
  · cases e : H0 a with
    | none => exact absurd e h
    | some o => rw [r.pre a o hm e]; exact fun z => by cases z
theorem Fr.back (r : Fr g H0 F0 H F) {a : Addr} (h : H a = none) : H0 a = none := by
  cases e : H0 a with
  | none => rfl
  | some o => exact absurd h (r.there (by rw [e]; exact fun z => by cases z))
theorem Fr.self (r : Fr g H0 F0 H F) : Fr g H F H F :=
  ⟨fun _ _ _ h => h, r.j, r.sub, Ex.refl _, fun _ _ => rfl, fun a m => ⟨(r.nm a m).1, r.j.has m⟩⟩
theorem Fr.trans (r : Fr g H0 F0 H F) (q : Fr g H F H1 F1) : Fr g H0 F0 H1 F1 :=
  ⟨fun a o m h => q.pre a o m (r.pre a o m h), q.j, q.sub, r.f0.trans q.f0, fun a h => (q.old a (r.there h)).trans (r.old a h), fun a m => ⟨(q.nm a m).1, (r.nm a m).2⟩⟩
/-- a callee that does not touch the deck -/
theorem Fr.lift (r : Fr g H0 F0 H F) (q : Fr none H F H1 F1) : Fr g H F H1 F1 :=
  ⟨fun a o _ h => q.pre a o (fun z => z) h, r.j.loc (fun a m => by
    cases e : H a with
    | none => exact absurd e (r.j.has m)
    | some o => exact q.pre a o (fun z => z) e), q.sub, q.f0, q.old, fun a m => ⟨by rw [q.old a (r.j.has m)]; exact (r.nm a m).1, r.j.has m⟩⟩
/-- without the deck -/
theorem Fr.bare (r : Fr g H0 F0 H F) : Fr none H F H F := ⟨fun _ _ _ h => h, trivial, r.sub, Ex.refl _, fun _ _ => rfl, fun _ m => m.elim⟩
theorem Fr.freeF (r : Fr g H0 F0 H F) {p : Addr} (h : H p = none) : F p = none := by
  cases e : F p with
  | none => rfl
  | some o => rw [r.sub p o e] at h; cases h
theorem Fr.freeM (r : Fr g H0 F0 H F) {p : Addr} (h : H p = none) : ¬ g.M p := fun m => r.j.has m h
/-- a new object, frozen -/
theorem Fr.new (r : Fr g H0 F0 H F) {p : Addr} {o : HO} (h : H p = none) : Fr g H F (upd H p o) (upd F p o) := by
  have hF := r.freeF h
  have hM := r.freeM h
  refine ⟨fun a u _ e => by rw [upd_ne (ne_of_none e h)]; exact e, r.j.loc fun a m => upd_ne (fun z => hM (by rw [← z]; exact m)), fun a u e => ?_, fun a u e => by rw [upd_ne (ne_of_none e hF)]; exact e, fun a e => upd_ne (fun z => e (by rw [z]; exact h)), fun a m => ⟨?_, r.j.has m⟩⟩
  · by_cases q : a = p
    · subst q; rw [upd_same] at e ⊢; exact e
    · rw [upd_ne q] at e ⊢; exact r.sub a u e
  · rw [upd_ne (fun z => hM (by rw [← z]; exact m))]; exact (r.nm a m).1
/-- a new object, held by a name of ours -/
theorem Fr.newO (r : Fr g H0 F0 H F) {p : Addr} {o : HO} (h : H p = none) : Fr g H F (upd H p o) F := by
  have hM := r.freeM h
  refine ⟨fun a u _ e => by rw [upd_ne (ne_of_none e h)]; exact e, r.j.loc fun a m => upd_ne (fun z => hM (by rw [← z]; exact m)), fun a u e => ?_, Ex.refl _, fun a e => rfl, fun a m => ⟨(r.nm a m).1, r.j.has m⟩⟩
  have := r.sub a u e
  rw [upd_ne (ne_of_none this h)]; exact this
/-- an object of ours is frozen -/
theorem Fr.freeze (r : Fr g H0 F0 H F) {p : Addr} {o : HO} (h : H p = some o) (h0 : H0 p = none) (hF : F p = none) : Fr g H0 F0 H (upd F p o) := by
  have hM : ¬ g.M p := fun m => (r.nm p m).2 h0
  refine ⟨r.pre, r.j, fun a u e => ?_, fun a u e => by rw [upd_ne (ne_of_none (r.f0 a u e) hF)]; exact r.f0 a u e, fun a e => by rw [upd_ne (fun z => e (by rw [z]; exact h0))]; exact r.old a e, fun a m => ⟨by rw [upd_ne (fun z => hM (by rw [← z]; exact m))]; exact (r.nm a m).1, (r.nm a m).2⟩⟩
  by_cases q : a = p
  · subst q; rw [upd_same] at e; cases e; exact h
  · rw [upd_ne q] at e; exact r.sub a u e
/-- an object of ours is written -/
theorem Fr.write (r : Fr g H0 F0 H F) {p : Addr} {o : HO} (h0 : H0 p = none) (hF : F p = none) : Fr g H0 F0 (upd H p o) F := by
  have hM : ¬ g.M p := fun m => (r.nm p m).2 h0
  refine ⟨fun a u m e => by rw [upd_ne (ne_of_none e h0)]; exact r.pre a u m e, r.j.loc fun a m => upd_ne (fun z => hM (by rw [← z]; exact m)), fun a u e => ?_, r.f0, r.old, r.nm⟩
  rw [upd_ne (ne_of_none e hF)]; exact r.sub a u e
end
theorem upd_ex {F : Hp} {p : Addr} {o : HO} (h : F p = none) : Ex F (upd F p o) := fun a u e => by rw [upd_ne (ne_of_none e h)]; exact e

/-! ### slots and data -/
abbrev Ro := List (Option D)
structure Rel (K : PySem.W.Frag) (g : Gd) (H0 F0 : Hp) (m : List Nat) (σ : L2.St) (H F : Hp) (ρ : Ro) : Prop where
  fr : Fr g H0 F0 H F
  len : σ.length = ρ.length
  vals : ∀ i d, ρ[i]? = some (some d) → i ∉ m → ∃ v, σ[i]? = some (some v) ∧ Is K F v d
  own : ∃ oa : Nat → Addr, (∀ i ∈ m, ∃ vs xs, σ[i]? = some (some (.ref (oa i))) ∧ ρ[i]? = some (some (.lst xs)) ∧ H (oa i) = some (.lst vs) ∧ IsAll K F vs xs ∧ F (oa i) = none ∧ H0 (oa i) = none) ∧ ∀ i ∈ m, ∀ j ∈ m, oa i = oa j → i = j
section
variable {K : PySem.W.Frag} {g : Gd} {H0 F0 H F H1 F1 : Hp} {m : List Nat} {σ : L2.St} {ρ : Ro}
/-- behind a deed that leaves our names and lists alone -/
theorem Rel.step (r : Rel K g H0 F0 m σ H F ρ) (q : Fr g H F H1 F1) : Rel K g H0 F0 m σ H1 F1 ρ := by
  refine ⟨r.fr.trans q, r.len, fun i d h1 h2 => ?_, ?_⟩
  · obtain ⟨v, e, h⟩ := r.vals i d h1 h2
    exact ⟨v, e, h.up q.f0⟩
  · obtain ⟨oa, h1, h2⟩ := r.own
    refine ⟨oa, fun i hi => ?_, h2⟩
    obtain ⟨vs, xs, e1, e2, e3, e4, e5, e6⟩ := h1 i hi
    have nM : ¬ g.M (oa i) := fun z => (r.fr.nm _ z).2 e6
    exact ⟨vs, xs, e1, e2, q.pre _ _ nM e3, e4.up q.f0, by rw [q.old _ (by rw [e3]; exact fun z => by cases z)]; exact e5, e6⟩
theorem Rel.val (r : Rel K g H0 F0 m σ H F ρ) {i : Nat} {d : D} (h : ρ[i]? = some (some d)) (hi : i ∉ m) : ∃ v, σ[i]? = some (some v) ∧ Is K F v d := r.vals i d h hi
/-- slots forgotten -/
theorem set_get {α : Type} {l : List α} {i j : Nat} {x y : α} (h : (l.set i x)[j]? = some y) : (j = i ∧ y = x) ∨ (j ≠ i ∧ l[j]? = some y) := by
  by_cases e : i = j
  · subst e
    have hl : i < l.length := by have := (List.getElem?_eq_some_iff.mp h).1; rwa [List.length_set] at this
    rw [List.getElem?_set_self hl] at h
    exact .inl ⟨rfl, (Option.some.inj h).symm⟩
  · rw [List.getElem?_set_ne e] at h
    exact .inr ⟨fun z => e z.symm, h⟩
/-- a name is given data -/
theorem Rel.set (r : Rel K g H0 F0 m σ H F ρ) {i : Nat} {v : V} {d : D} (h : Is K F v d) (hi : i < ρ.length) : Rel K g H0 F0 (m.filter (· ≠ i)) (σ.set i (some v)) H F (ρ.set i (some d)) := by
  refine ⟨r.fr, by rw [List.length_set, List.length_set]; exact r.len, fun j d' h1 h2 => ?_, ?_⟩
  · rcases set_get h1 with ⟨rfl, e⟩ | ⟨hj, e⟩
    · cases e
      exact ⟨v, List.getElem?_set_self (by rw [r.len]; exact hi), h⟩
    · have hm : j ∉ m := fun z => h2 (List.mem_filter.mpr ⟨z, by simpa using hj⟩)
      obtain ⟨w, e1, e2⟩ := r.vals j d' e hm
      exact ⟨w, by rw [List.getElem?_set_ne (Ne.symm hj)]; exact e1, e2⟩
  · obtain ⟨oa, h1, h2⟩ := r.own
    refine ⟨oa, fun j hj => ?_, fun a ha b hb => h2 a (List.mem_filter.mp ha).1 b (List.mem_filter.mp hb).1⟩
    obtain ⟨hj1, hj2⟩ := List.mem_filter.mp hj
    have hj2 : j ≠ i := by simpa using hj2
    obtain ⟨vs, xs, e1, e2, e3⟩ := h1 j hj1
    exact ⟨vs, xs, by rw [List.getElem?_set_ne (Ne.symm hj2)]; exact e1, by rw [List.getElem?_set_ne (Ne.symm hj2)]; exact e2, e3⟩
/-- a name is given a new list of ours -/
theorem Rel.setO (r : Rel K g H0 F0 m σ H F ρ) {i : Nat} {p : Addr} {vs : List V} {xs : List D} (hi : i < ρ.length) (hp : H p = some (.lst vs)) (hF : F p = none) (h0 : H0 p = none) (ha : IsAll K F vs xs)
    (hn : ∀ j v, σ[j]? = some (some v) → j ∈ m → v ≠ .ref p) : Rel K g H0 F0 (i :: m.filter (· ≠ i)) (σ.set i (some (.ref p))) H F (ρ.set i (some (.lst xs))) := by
  refine ⟨r.fr, by rw [List.length_set, List.length_set]; exact r.len, fun j d' h1 h2 => ?_, ?_⟩
  · rcases set_get h1 with ⟨rfl, e⟩ | ⟨hj, e⟩
    · exact absurd List.mem_cons_self h2
    · have hm : j ∉ m := fun z => h2 (List.mem_cons_of_mem _ (List.mem_filter.mpr ⟨z, by simpa using hj⟩))
      obtain ⟨w, e1, e2⟩ := r.vals j d' e hm
      exact ⟨w, by rw [List.getElem?_set_ne (Ne.symm hj)]; exact e1, e2⟩
  · obtain ⟨oa, h1, h2⟩ := r.own
    have old : ∀ j ∈ m.filter (· ≠ i), j ∈ m ∧ j ≠ i := fun j hj => ⟨(List.mem_filter.mp hj).1, by simpa using (List.mem_filter.mp hj).2⟩
    have ne : ∀ j ∈ m, oa j ≠ p := fun j hj z => by
      obtain ⟨_, _, e1, _⟩ := h1 j hj
      exact hn j _ e1 hj (by rw [z])
    have o1 : (fun j => if j = i then p else oa j) i = p := if_pos rfl
    have o2 : ∀ j, j ≠ i → (fun j => if j = i then p else oa j) j = oa j := fun j h => if_neg h
    generalize (fun j => if j = i then p else oa j) = ob at o1 o2
    refine ⟨ob, fun j hj => ?_, fun a ha' b hb' e => ?_⟩
    · rcases List.mem_cons.mp hj with rfl | hj
      · rw [o1]
        exact ⟨vs, xs, List.getElem?_set_self (by rw [r.len]; exact hi), List.getElem?_set_self hi, hp, ha, hF, h0⟩
      · obtain ⟨hj1, hj2⟩ := old j hj
        rw [o2 j hj2]
        obtain ⟨vs', xs', e1, e2, e3⟩ := h1 j hj1
        exact ⟨vs', xs', by rw [List.getElem?_set_ne (Ne.symm hj2)]; exact e1, by rw [List.getElem?_set_ne (Ne.symm hj2)]; exact e2, e3⟩
    · rcases List.mem_cons.mp ha' with rfl | ha'
      · rcases List.mem_cons.mp hb' with rfl | hb'
        · rfl
        · obtain ⟨hb1, hb2⟩ := old b hb'
          rw [o1, o2 b hb2] at e
          exact absurd e.symm (ne b hb1)
      · obtain ⟨ha1, ha2⟩ := old a ha'
        rcases List.mem_cons.mp hb' with rfl | hb'
        · rw [o2 a ha2, o1] at e
          exact absurd e (ne a ha1)
        · obtain ⟨hb1, hb2⟩ := old b hb'
          rw [o2 a ha2, o2 b hb2] at e
          exact h2 a ha1 b hb1 e
/-- a list of ours is frozen -/
theorem Rel.freeze1 (r : Rel K g H0 F0 m σ H F ρ) (i : Nat) : ∃ F', Rel K g H0 F0 (m.filter (· ≠ i)) σ H F' ρ ∧ Ex F F' := by
  by_cases hi : i ∈ m
  · obtain ⟨oa, h1, h2⟩ := r.own
    obtain ⟨vs, xs, e1, e2, e3, e4, e5, e6⟩ := h1 i hi
    have ex : Ex F (upd F (oa i) (.lst vs)) := upd_ex e5
    refine ⟨upd F (oa i) (.lst vs), ⟨r.fr.freeze e3 e6 e5, r.len, fun j d h3 h4 => ?_, oa, fun j hj => ?_, fun a ha b hb => h2 a (List.mem_filter.mp ha).1 b (List.mem_filter.mp hb).1⟩, ex⟩
    · by_cases hj : j = i
      · subst hj
        rw [e2] at h3
        cases h3
        exact ⟨_, e1, .lst upd_same (e4.up ex)⟩
      · have hm : j ∉ m := fun z => h4 (List.mem_filter.mpr ⟨z, by simpa using hj⟩)
        obtain ⟨v, q1, q2⟩ := r.vals j d h3 hm
        exact ⟨v, q1, q2.up ex⟩
    · obtain ⟨hj1, hj2⟩ := List.mem_filter.mp hj
      have hj2 : j ≠ i := by simpa using hj2
      obtain ⟨vs', xs', q1, q2, q3, q4, q5, q6⟩ := h1 j hj1
      have hne : oa j ≠ oa i := fun z => hj2 (h2 j hj1 i hi z)
      exact ⟨vs', xs', q1, q2, q3, q4.up ex, by rw [upd_ne hne]; exact q5, q6⟩
  · refine ⟨F, ?_, Ex.refl _⟩
    have e : m.filter (· ≠ i) = m := List.filter_eq_self.mpr fun a ha => by
      have : a ≠ i := fun z => hi (z ▸ ha)
      simpa using this
    rw [e]
    exact r
theorem Rel.congr {m' : List Nat} (r : Rel K g H0 F0 m σ H F ρ) (h : ∀ i, i ∈ m' ↔ i ∈ m) : Rel K g H0 F0 m' σ H F ρ := by
  refine ⟨r.fr, r.len, fun i d h1 h2 => r.vals i d h1 fun z => h2 ((h i).mpr z), ?_⟩
  obtain ⟨oa, h1, h2⟩ := r.own
  exact ⟨oa, fun i hi => h1 i ((h i).mp hi), fun a ha b hb => h2 a ((h a).mp ha) b ((h b).mp hb)⟩
theorem Rel.freezeAll (r : Rel K g H0 F0 m σ H F ρ) : ∀ l : List Nat, ∃ F', Rel K g H0 F0 (m.filter (· ∉ l)) σ H F' ρ ∧ Ex F F'
  | [] => ⟨F, r.congr fun i => by simp, Ex.refl _⟩
  | i :: l => by
    obtain ⟨F1, r1, x1⟩ := Rel.freezeAll r l
    obtain ⟨F2, r2, x2⟩ := r1.freeze1 i
    exact ⟨F2, r2.congr fun j => by
      simp only [List.mem_filter, List.mem_cons, not_or, decide_eq_true_eq]
      constructor
      · rintro ⟨a, b, c⟩; exact ⟨⟨a, c⟩, b⟩
      · rintro ⟨⟨a, c⟩, b⟩; exact ⟨a, b, c⟩, x1.trans x2⟩
/-- only the lists of m' are still ours -/
theorem Rel.weak {m' : List Nat} (r : Rel K g H0 F0 m σ H F ρ) (h : m'.all (fun i => m.contains i) = true) : ∃ F', Rel K g H0 F0 m' σ H F' ρ ∧ Ex F F' := by
  obtain ⟨F1, r1, x1⟩ := r.freezeAll (m.filter (· ∉ m'))
  refine ⟨F1, r1.congr fun i => ?_, x1⟩
  have hs : i ∈ m' → i ∈ m := fun hi => by simpa using List.all_eq_true.mp h i hi
  simp only [List.mem_filter, decide_eq_true_eq, not_and, Decidable.not_not]
  exact ⟨fun hi => ⟨hs hi, fun _ => hi⟩, fun ⟨a, b⟩ => b a⟩
end
end DL

/-! DL2: the readings over data, expressions. -/
namespace DL
open PySem L2
abbrev XD := Str → D → Prop
/-- what is wanted of an exception: its class (by the module's name), what it carries -/
def XE (K : PySem.W.Frag) (g : Gd) (H F : Hp) (x : XD) (E : XK) : Prop :=
  ∀ (n : Str) (dx : Addr) (H' F' : Hp) (v : V) (d : D), Fr g H F H' F' → H dx = none → H' dx = some (.xd [("thing", v)]) → Is K F' v d → x n d → E (.ref (He.ga K n)) (some dx) H'
abbrev x0 : XD := fun _ _ => False
section
variable {K : PySem.W.Frag} {g : Gd} {H0 F0 H F H1 F1 : Hp} {x : XD} {E : XK}
theorem XE.step (h : XE K g H F x E) (r : Fr g H F H1 F1) : XE K g H1 F1 x E := fun C dx H' F' v d q n e i hx => h C dx H' F' v d (r.trans q) (r.back n) e i hx
theorem XE.none : XE K g H F x0 E := fun _ _ _ _ _ _ _ _ _ _ hx => hx.elim
end
abbrev FE := Ro → (D → Prop) → XD → Prop
abbrev FT := Ro → (Bool → Prop) → XD → Prop
abbrev FA := Ro → (List D → Prop) → XD → Prop
/-- an expression that gives data -/
def tE (K : PySem.W.Frag) (g : Gd) (E : XK) (m : List Nat) (f : FE) : TE := fun σ H Q => ∃ H0 F0 F ρ q x, Rel K g H0 F0 m σ H F ρ ∧ f ρ q x ∧
  (∀ v H' F' d, Fr g H F H' F' → Is K F' v d → q d → Q v H') ∧ XE K g H F x E
/-- .. a list that a name of ours may hold alone, or data -/
def IsB (K : PySem.W.Frag) (g : Gd) (F H : Hp) (v : V) (d : D) : Prop := Is K F v d ∨ ∃ a vs xs, v = .ref a ∧ d = .lst xs ∧ H a = some (.lst vs) ∧ ¬ g.M a ∧ IsAll K F vs xs
def tBo (K : PySem.W.Frag) (g : Gd) (E : XK) (m : List Nat) (f : FE) : TE := fun σ H Q => ∃ H0 F0 F ρ q x, Rel K g H0 F0 m σ H F ρ ∧ f ρ q x ∧
  (∀ v H' F' d, Fr g H F H' F' → IsB K g F' H' v d → q d → Q v H') ∧ XE K g H F x E
/-- .. a new list -/
def tF (K : PySem.W.Frag) (g : Gd) (E : XK) (m : List Nat) (f : FE) : TE := fun σ H Q => ∃ H0 F0 F ρ q x, Rel K g H0 F0 m σ H F ρ ∧ f ρ q x ∧
  (∀ p H' F' vs xs, Fr g H F H' F' → H p = none → H' p = some (.lst vs) → F' p = none → IsAll K F' vs xs → q (.lst xs) → Q (.ref p) H') ∧ XE K g H F x E
def tT (K : PySem.W.Frag) (g : Gd) (E : XK) (m : List Nat) (f : FT) : TT := fun σ H Q => ∃ H0 F0 F ρ q x, Rel K g H0 F0 m σ H F ρ ∧ f ρ q x ∧
  (∀ b H' F', Fr g H F H' F' → q b → Q b H') ∧ XE K g H F x E
def tA (K : PySem.W.Frag) (g : Gd) (E : XK) (m : List Nat) (f : FA) : TA := fun σ H Q => ∃ H0 F0 F ρ q x, Rel K g H0 F0 m σ H F ρ ∧ f ρ q x ∧
  (∀ vs H' F' ds, Fr g H F H' F' → IsAll K F' vs ds → q ds → Q vs H') ∧ XE K g H F x E
abbrev DE (X : Cx) (g : Gd) (E : XK) (m : List Nat) (e : Expr) (f : FE) : Prop := PE X e (tE X.K g E m f)
abbrev DB (X : Cx) (g : Gd) (E : XK) (m : List Nat) (e : Expr) (f : FE) : Prop := PE X e (tBo X.K g E m f)
abbrev DF (X : Cx) (g : Gd) (E : XK) (m : List Nat) (e : Expr) (f : FE) : Prop := PE X e (tF X.K g E m f)
abbrev DT (X : Cx) (g : Gd) (E : XK) (m : List Nat) (e : Expr) (f : FT) : Prop := PT X e (tT X.K g E m f)
abbrev DW (X : Cx) (g : Gd) (E : XK) (m : List Nat) (e : Expr) (f : FT) : Prop := PW X e (tT X.K g E m f)
abbrev DA (X : Cx) (g : Gd) (E : XK) (m : List Nat) (es : List Expr) (f : FA) : Prop := PA X es (tA X.K g E m f)

theorem PEimp {X : Cx} {e : Expr} {t t' : TE} (h : PE X e t) (i : ∀ σ H Q, t' σ H Q → t σ H Q) : PE X e t' := ⟨fun pins s σ H Q I q => h.run pins s σ H Q I (i σ H Q q)⟩
theorem PTimp {X : Cx} {e : Expr} {t t' : TT} (h : PT X e t) (i : ∀ σ H Q, t' σ H Q → t σ H Q) : PT X e t' := ⟨fun pins s σ H Q I q => h.run pins s σ H Q I (i σ H Q q)⟩
theorem PWimp {X : Cx} {e : Expr} {t t' : TT} (h : PW X e t) (i : ∀ σ H Q, t' σ H Q → t σ H Q) : PW X e t' := ⟨fun wh pins s σ H Q I q => h.run wh pins s σ H Q I (i σ H Q q)⟩
theorem PAimp {X : Cx} {e : List Expr} {t t' : TA} (h : PA X e t) (i : ∀ σ H Q, t' σ H Q → t σ H Q) : PA X e t' := ⟨fun pos pins s σ H Q I q => h.run pos pins s σ H Q I (i σ H Q q)⟩
theorem PSimp {X : Cx} {e : Stmt} {t t' : TS} (h : PS X e t) (i : ∀ D σ H, t' D σ H → t D σ H) : PS X e t' := ⟨fun pins s σ H D I q => h.run pins s σ H D I (i D σ H q)⟩
theorem PSsimp {X : Cx} {e : List Stmt} {t t' : TS} (h : PSs X e t) (i : ∀ D σ H, t' D σ H → t D σ H) : PSs X e t' := ⟨fun pins s σ H D I q => h.run pins s σ H D I (i D σ H q)⟩

/-! ### from one to another -/
section
variable {X : Cx} {g : Gd} {E : XK} {m : List Nat} {e : Expr} {f : FE}
theorem DE.toB (h : DE X g E m e f) : DB X g E m e f := PEimp h fun σ H Q ⟨H0, F0, F, ρ, q, x, R, hf, hq, hx⟩ =>
  ⟨H0, F0, F, ρ, q, x, R, hf, fun v H' F' d r i hd => hq v H' F' d r (.inl i) hd, hx⟩
/-- a new list, frozen at once -/
theorem DF.toE (h : DF X g E m e f) : DE X g E m e f := PEimp h fun σ H Q ⟨H0, F0, F, ρ, q, x, R, hf, hq, hx⟩ =>
  ⟨H0, F0, F, ρ, q, x, R, hf, fun p H' F' vs xs r n h1 h2 ha hd => hq _ H' (upd F' p (.lst vs)) _ (r.freeze h1 n h2) (.lst upd_same (ha.up (upd_ex h2))) hd, hx⟩
theorem DF.toB (h : DF X g E m e f) : DB X g E m e f := DE.toB (DF.toE h)
end
theorem IsB.up {K : PySem.W.Frag} {g : Gd} {F H F' H' : Hp} {v : V} {d : D} (h : IsB K g F H v d) (r : Fr g H F H' F') : IsB K g F' H' v d := by
  rcases h with h | ⟨a, vs, xs, rfl, rfl, h1, h2, h3⟩
  · exact .inl (h.up r.f0)
  · exact .inr ⟨a, vs, xs, rfl, rfl, r.pre _ _ h2 h1, h2, h3.up r.f0⟩

/-! ### names, constants -/
def fVar (i : Nat) : FE := fun ρ q _ => match ρ[i]? with | some (some d) => q d | _ => False
def fK (d : D) : FE := fun _ q _ => q d
section
variable {X : Cx} {g : Gd} {E : XK} {m : List Nat}
theorem de_of {e : Expr} {i : Nat} (h : PE X e (tVar i)) (hm : m.contains i = false := by rfl) : DE X g E m e (fVar i) := PEimp h fun σ H Q ⟨H0, F0, F, ρ, q, x, R, hf, hq, hx⟩ => by
  unfold fVar at hf
  split at hf
  · rename_i d e
    obtain ⟨v, e1, e2⟩ := R.vals i d e (by simpa using hm)
    exact ⟨v, e1, hq v H F d R.fr.self e2 hf⟩
  · exact hf.elim
theorem db_of {e : Expr} {i : Nat} (h : PE X e (tVar i)) : DB X g E m e (fVar i) := PEimp h fun σ H Q ⟨H0, F0, F, ρ, q, x, R, hf, hq, hx⟩ => by
  unfold fVar at hf
  split at hf
  · rename_i d e
    by_cases hm : i ∈ m
    · obtain ⟨oa, h1, _⟩ := R.own
      obtain ⟨vs, xs, e1, e2, e3, e4, e5, e6⟩ := h1 i hm
      rw [e] at e2
      cases e2
      exact ⟨_, e1, hq _ H F _ R.fr.self (.inr ⟨_, _, _, rfl, rfl, e3, fun z => (R.fr.nm _ z).2 e6, e4⟩) hf⟩
    · obtain ⟨v, e1, e2⟩ := R.vals i d e hm
      exact ⟨v, e1, hq v H F d R.fr.self (.inl e2) hf⟩
  · exact hf.elim
theorem de_c {e : Expr} {v : V} {d : D} (h : PE X e (tC v)) (hi : ∀ F, Is X.K F v d) : DE X g E m e (fK d) := PEimp h fun σ H Q ⟨H0, F0, F, ρ, q, x, R, hf, hq, hx⟩ => hq v H F d R.fr.self (hi F) hf
theorem de_int {i : Int} {j : Nat} {pos : Pos} : DE X g E m (.Constant (.int i) j pos) (fK (.int i)) := de_c pe_int fun _ => .int i
theorem de_bl {b : Bool} {j : Nat} {pos : Pos} : DE X g E m (.Constant (.bool b) j pos) (fK (.bl b)) := de_c pe_bl fun _ => .bl b
theorem de_non {j : Nat} {pos : Pos} : DE X g E m (.Constant .none j pos) (fK .non) := de_c pe_non fun _ => .non
theorem de_str {x : Str} {j : Nat} {pos : Pos} : DE X g E m (.Constant (.str x) j pos) (fK (.str x)) := de_c pe_str fun _ => .str x
/-- a module's constant -/
theorem de_glob {x : Str} {v : V} {u : Value} {d : D} {pos : Pos} (hg : Gl X x) (hm : X.mg x = some u) (r : RelV v u) (hi : ∀ F, Is X.K F v d) (hd : (x == ("__debug__" : Str)) = false := by decide) : DE X g E m (.Name x pos) (fK d) := de_c (pe_glob hg hm r hd) hi
end

/-! ### two operands, one -/
def f2 (sem : D → D → (D → Prop) → XD → Prop) (fa fb : FE) : FE := fun ρ q x => fa ρ (fun a => fb ρ (fun b => sem a b q x) x) x
def f1 (sem : D → (D → Prop) → XD → Prop) (fa : FE) : FE := fun ρ q x => fa ρ (fun a => sem a q x) x
/-- an operator by values does sem on data -/
def Sem2 (K : PySem.W.Frag) (r : R2) (sem : D → D → (D → Prop) → XD → Prop) : Prop :=
  ∀ (g : Gd) (E : XK) (H F : Hp) (v w : V) (a b : D) (q : D → Prop) (x : XD) (Q : VK), Fr g H F H F → IsB K g F H v a → IsB K g F H w b → sem a b q x →
    (∀ u H' F' d, Fr g H F H' F' → Is K F' u d → q d → Q u H') → XE K g H F x E → r v w H Q
/-- .. giving a new list -/
def Sem2F (K : PySem.W.Frag) (r : R2) (sem : D → D → (D → Prop) → XD → Prop) : Prop :=
  ∀ (g : Gd) (E : XK) (H F : Hp) (v w : V) (a b : D) (q : D → Prop) (x : XD) (Q : VK), Fr g H F H F → IsB K g F H v a → IsB K g F H w b → sem a b q x →
    (∀ p H' F' vs xs, Fr g H F H' F' → H p = none → H' p = some (.lst vs) → F' p = none → IsAll K F' vs xs → q (.lst xs) → Q (.ref p) H') → XE K g H F x E → r v w H Q
def Sem1 (K : PySem.W.Frag) (r : V → Hp → VK → Prop) (sem : D → (D → Prop) → XD → Prop) : Prop :=
  ∀ (g : Gd) (E : XK) (H F : Hp) (v : V) (a : D) (q : D → Prop) (x : XD) (Q : VK), Fr g H F H F → IsB K g F H v a → sem a q x →
    (∀ u H' F' d, Fr g H F H' F' → Is K F' u d → q d → Q u H') → XE K g H F x E → r v H Q
section
variable {X : Cx} {g : Gd} {E : XK} {m : List Nat} {a b : Expr} {fa fb : FE} {sem : D → D → (D → Prop) → XD → Prop} {r : R2}
theorem de_2 {e : Expr} (h : PE X e (tOp r (tBo X.K g E m fa) (tBo X.K g E m fb))) (hs : Sem2 X.K r sem) : DE X g E m e (f2 sem fa fb) := PEimp h fun σ H Q ⟨H0, F0, F, ρ, q, x, R, hf, hq, hx⟩ => by
  refine ⟨H0, F0, F, ρ, _, x, R, hf, fun v H1 F1 d r1 i1 hb => ?_, hx⟩
  refine ⟨H0, F0, F1, ρ, _, x, R.step r1, hb, fun w H2 F2 d2 r2 i2 hs2 => ?_, hx.step r1⟩
  exact hs g E H2 F2 v w d d2 q x Q ((R.step r1).step r2).fr.self (i1.up r2) i2 hs2 (fun u H' F' d' r3 i3 hd => hq u H' F' d' (r1.trans (r2.trans r3)) i3 hd) ((hx.step r1).step r2)
theorem df_2 {e : Expr} (h : PE X e (tOp r (tBo X.K g E m fa) (tBo X.K g E m fb))) (hs : Sem2F X.K r sem) : DF X g E m e (f2 sem fa fb) := PEimp h fun σ H Q ⟨H0, F0, F, ρ, q, x, R, hf, hq, hx⟩ => by
  refine ⟨H0, F0, F, ρ, _, x, R, hf, fun v H1 F1 d r1 i1 hb => ?_, hx⟩
  refine ⟨H0, F0, F1, ρ, _, x, R.step r1, hb, fun w H2 F2 d2 r2 i2 hs2 => ?_, hx.step r1⟩
  exact hs g E H2 F2 v w d d2 q x Q ((R.step r1).step r2).fr.self (i1.up r2) i2 hs2 (fun p H' F' vs xs r3 n h1 h2 ha hd => hq p H' F' vs xs (r1.trans (r2.trans r3)) (r1.back (r2.back n)) h1 h2 ha hd) ((hx.step r1).step r2)
theorem de_1 {e : Expr} {r : V → Hp → VK → Prop} {sem : D → (D → Prop) → XD → Prop} (h : PE X e (tUn r (tBo X.K g E m fa))) (hs : Sem1 X.K r sem) : DE X g E m e (f1 sem fa) := PEimp h fun σ H Q ⟨H0, F0, F, ρ, q, x, R, hf, hq, hx⟩ => by
  refine ⟨H0, F0, F, ρ, _, x, R, hf, fun v H1 F1 d r1 i1 hb => ?_, hx⟩
  exact hs g E H1 F1 v d q x Q (R.step r1).fr.self i1 hb (fun u H' F' d' r3 i3 hd => hq u H' F' d' (r1.trans r3) i3 hd) (hx.step r1)
end

/-! ### numbers -/
/-- two integers -/
def sI (C : Int → Int → Prop) (h : Int → Int → D) : D → D → (D → Prop) → XD → Prop := fun a b q _ => match a, b with | .int i, .int j => C i j ∧ q (h i j) | _, _ => False
theorem IsB.int {K : PySem.W.Frag} {g : Gd} {F H : Hp} {v : V} {i : Int} (h : IsB K g F H v (.int i)) : v = .int i := by
  rcases h with h | ⟨_, _, _, _, z, _⟩
  · cases h; rfl
  · cases z
theorem IsB.bl {K : PySem.W.Frag} {g : Gd} {F H : Hp} {v : V} {i : Bool} (h : IsB K g F H v (.bl i)) : v = .bl i := by
  rcases h with h | ⟨_, _, _, _, z, _⟩
  · cases h; rfl
  · cases z
theorem IsB.str {K : PySem.W.Frag} {g : Gd} {F H : Hp} {v : V} {i : Str} (h : IsB K g F H v (.str i)) : v = .str i := by
  rcases h with h | ⟨_, _, _, _, z, _⟩
  · cases h; rfl
  · cases z
theorem IsB.tup {K : PySem.W.Frag} {g : Gd} {F H : Hp} {v : V} {ds : List D} (h : IsB K g F H v (.tup ds)) : ∃ a xs, v = .ref a ∧ SqT K F a xs ∧ IsAll K F xs ds := by
  rcases h with h | ⟨_, _, _, _, z, _⟩
  · cases h with | tup h1 h2 => exact ⟨_, _, rfl, h1, h2⟩
  · cases z
theorem IsB.lst {K : PySem.W.Frag} {g : Gd} {F H : Hp} {v : V} {ds : List D} (s : Ex F H) (h : IsB K g F H v (.lst ds)) : ∃ a xs, v = .ref a ∧ H a = some (.lst xs) ∧ IsAll K F xs ds := by
  rcases h with h | ⟨a, xs, _, rfl, z, e, _, ha⟩
  · cases h with | lst h1 h2 => exact ⟨_, _, rfl, s _ _ h1, h2⟩
  · cases z; exact ⟨_, _, rfl, e, ha⟩
theorem sem_I {K : PySem.W.Frag} {C : Int → Int → Prop} {h : Int → Int → D} {h' : Int → Int → V} (hi : ∀ i j F, Is K F (h' i j) (h i j)) : Sem2 K (rI C h') (sI C h) := by
  intro g E H F v w a b q x Q r ia ib hs hq hx
  cases a <;> cases b <;> first | exact hs.elim | skip
  obtain ⟨hc, hs⟩ := hs
  exact ⟨_, _, ia.int, ib.int, hc, hq _ H F _ r (hi _ _ F) hs⟩
/-- without a condition -/
def sI0 (h : Int → Int → D) : D → D → (D → Prop) → XD → Prop := fun a b q _ => match a, b with | .int i, .int j => q (h i j) | _, _ => False
theorem sem_I0 {K : PySem.W.Frag} {h : Int → Int → D} {h' : Int → Int → V} (hi : ∀ i j F, Is K F (h' i j) (h i j)) : Sem2 K (rI0 h') (sI0 h) := by
  intro g E H F v w a b q x Q r ia ib hs hq hx
  cases a <;> cases b <;> first | exact hs.elim | skip
  exact ⟨_, _, ia.int, ib.int, hq _ H F _ r (hi _ _ F) hs⟩

/-! ### data as the library's own data -/
def keyPy : Key → PyData
  | .inl i => .int i
  | .inr s => .str s
def keyOk : Key → Bool
  | .inl i => decide (i.natAbs.log2 < 1920)
  | .inr s => PyData.strOk s
def keyCost : Key → Nat
  | .inl _ => 2002
  | .inr s => 10 * s.length + 4
mutual
def D.py : D → PyData
  | .non => .none
  | .bl b => .bool b
  | .int i => .int i
  | .str s => .str s
  | .tup xs => .tuple (D.pys xs)
  | .lst xs => .list (D.pys xs)
  | .ref _ => .none
  | .dic ks vs => .dict ((ks.map keyPy).zip (D.pys vs))
def D.pys : List D → List PyData
  | [] => []
  | x :: xs => D.py x :: D.pys xs
end
mutual
/-- no thing known by its address alone, texts well made -/
def D.ok : D → Bool
  | .non => true
  | .bl _ => true
  | .int _ => true
  | .str s => PyData.strOk s
  | .tup xs => D.oks xs
  | .lst xs => D.oks xs
  | .ref _ => false
  | .dic _ _ => false
def D.oks : List D → Bool
  | [] => true
  | x :: xs => D.ok x && D.oks xs
end
mutual
/-- .. and dicts with keys well made -/
def D.okR : D → Bool
  | .non => true
  | .bl _ => true
  | .int _ => true
  | .str s => PyData.strOk s
  | .tup xs => D.oksR xs
  | .lst xs => D.oksR xs
  | .ref _ => false
  | .dic ks vs => ks.all keyOk && (decide (ks.length = vs.length) && D.oksR vs)
def D.oksR : List D → Bool
  | [] => true
  | x :: xs => D.okR x && D.oksR xs
end
mutual
theorem D.ok.r : ∀ d : D, d.ok = true → d.okR = true
  | .non, _ => rfl
  | .bl _, _ => rfl
  | .int _, _ => rfl
  | .str s, h => h
  | .tup xs, h => D.oks.r xs h
  | .lst xs, h => D.oks.r xs h
  | .ref _, h => by cases h
  | .dic _ _, h => by cases h
theorem D.oks.r : ∀ ds : List D, D.oks ds = true → D.oksR ds = true
  | [], _ => rfl
  | x :: xs, h => by
    have h' : (D.ok x && D.oks xs) = true := h
    rw [Bool.and_eq_true] at h'
    show (D.okR x && D.oksR xs) = true
    rw [D.ok.r x h'.1, D.oks.r xs h'.2] <;> rfl
end
mutual
def D.dep : D → Nat
  | .non => 0
  | .bl _ => 0
  | .int _ => 0
  | .str _ => 0
  | .tup xs => D.deps xs + 1
  | .lst xs => D.deps xs + 1
  | .ref _ => 0
  | .dic _ vs => D.deps vs + 1
def D.deps : List D → Nat
  | [] => 0
  | x :: xs => max (D.dep x) (D.deps xs)
end
mutual
/-- integers short enough to be shown -/
def D.shows : D → Bool
  | .non => true
  | .bl _ => true
  | .int i => decide (i.natAbs.log2 < 1920)
  | .str _ => true
  | .tup xs => D.showss xs
  | .lst xs => D.showss xs
  | .ref _ => false
  | .dic _ vs => D.showss vs
def D.showss : List D → Bool
  | [] => true
  | x :: xs => D.shows x && D.showss xs
end
mutual
/-- at most so many signs when shown -/
def D.cost : D → Nat
  | .non => 8
  | .bl _ => 8
  | .int _ => 2000
  | .str s => 10 * s.length + 2
  | .tup xs => D.costs xs + 3
  | .lst xs => D.costs xs + 3
  | .ref _ => 8
  | .dic ks vs => (ks.map keyCost).sum + D.costs vs + 3
def D.costs : List D → Nat
  | [] => 0
  | x :: xs => D.cost x + 2 + D.costs xs
end
mutual
theorem D.py_lay : ∀ d : D, d.ok = true → d.py.canLay0 = true
  | .non, _ => rfl
  | .bl _, _ => rfl
  | .int _, _ => rfl
  | .str s, h => h
  | .tup xs, h => D.pys_lay xs h
  | .lst xs, h => D.pys_lay xs h
  | .ref _, h => by cases h
  | .dic _ _, h => by cases h
theorem D.pys_lay : ∀ xs : List D, D.oks xs = true → PyData.canLayAll0 (D.pys xs) = true
  | [], _ => rfl
  | x :: xs, h => by
    have h' : (D.ok x && D.oks xs) = true := h
    rw [Bool.and_eq_true] at h'
    show (PyData.canLay0 (D.py x) && PyData.canLayAll0 (D.pys xs)) = true
    rw [D.py_lay x h'.1, D.pys_lay xs h'.2] <;> rfl
end
theorem depthKv_le : ∀ (ks : List Key) (ds : List PyData), PyData.depthKv ((ks.map keyPy).zip ds) ≤ PyData.depthAll ds
  | [], ds => by rw [List.map_nil, List.zip_nil_left]; exact Nat.zero_le _
  | k :: ks, [] => by rw [List.zip_nil_right]; exact Nat.le_refl _
  | k :: ks, d :: ds => by
    have h := depthKv_le ks ds
    have e : (keyPy k).depth = 0 := by cases k <;> rfl
    show max (max (keyPy k).depth d.depth) (PyData.depthKv ((ks.map keyPy).zip ds)) ≤ max d.depth (PyData.depthAll ds)
    rw [e]; omega
mutual
theorem D.py_dep : ∀ d : D, d.py.depth ≤ d.dep
  | .non => Nat.le_refl _
  | .bl _ => Nat.le_refl _
  | .int _ => Nat.le_refl _
  | .str _ => Nat.le_refl _
  | .tup xs => Nat.add_le_add_right (D.pys_dep xs) 1
  | .lst xs => Nat.add_le_add_right (D.pys_dep xs) 1
  | .ref _ => Nat.le_refl _
  | .dic ks vs => Nat.add_le_add_right (Nat.le_trans (depthKv_le ks _) (D.pys_dep vs)) 1
theorem D.pys_dep : ∀ xs : List D, PyData.depthAll (D.pys xs) ≤ D.deps xs
  | [] => Nat.le_refl _
  | x :: xs => by
    show max (PyData.depth (D.py x)) (PyData.depthAll (D.pys xs)) ≤ max (D.dep x) (D.deps xs)
    have := D.py_dep x
    have := D.pys_dep xs
    omega
end
theorem D.shaped {d : D} (h : d.ok = true) (h2 : d.dep ≤ 64) : SeqAt.shaped d.py = true := by
  unfold SeqAt.shaped
  rw [D.py_lay d h, decide_eq_true (Nat.le_trans (D.py_dep d) h2)] <;> rfl
theorem D.pys_length : ∀ xs : List D, (D.pys xs).length = xs.length
  | [] => rfl
  | x :: xs => by show (D.pys xs).length + 1 = xs.length + 1; rw [D.pys_length xs]
theorem showableKv_of : ∀ (ks : List Key) (ds : List PyData), ks.all keyOk = true → PyData.showableAll ds = true → PyData.showableKv ((ks.map keyPy).zip ds) = true
  | [], ds, _, _ => by rw [List.map_nil, List.zip_nil_left]; rfl
  | k :: ks, [], _, _ => by rw [List.zip_nil_right]; rfl
  | k :: ks, d :: ds, h, h' => by
    rw [List.all_cons, Bool.and_eq_true] at h
    have h2 : (d.showable && PyData.showableAll ds) = true := h'
    rw [Bool.and_eq_true] at h2
    have e : (keyPy k).showable = true := by
      cases k with
      | inl i => exact h.1
      | inr s => rfl
    show ((keyPy k).showable && d.showable && PyData.showableKv ((ks.map keyPy).zip ds)) = true
    rw [e, h2.1, showableKv_of ks ds h.2 h2.2] <;> rfl
mutual
theorem D.py_showable : ∀ d : D, d.okR = true → d.shows = true → d.py.showable = true
  | .non, _, _ => rfl
  | .bl _, _, _ => rfl
  | .int _, _, h => h
  | .str _, _, _ => rfl
  | .tup xs, o, h => D.pys_showable xs o h
  | .lst xs, o, h => D.pys_showable xs o h
  | .ref _, _, h => by cases h
  | .dic ks vs, o, h => by
    have o' : (ks.all keyOk && (decide (ks.length = vs.length) && D.oksR vs)) = true := o
    rw [Bool.and_eq_true, Bool.and_eq_true] at o'
    exact showableKv_of ks _ o'.1 (D.pys_showable vs o'.2.2 h)
theorem D.pys_showable : ∀ xs : List D, D.oksR xs = true → D.showss xs = true → PyData.showableAll (D.pys xs) = true
  | [], _, _ => rfl
  | x :: xs, o, h => by
    have h' : (D.shows x && D.showss xs) = true := h
    have o' : (D.okR x && D.oksR xs) = true := o
    rw [Bool.and_eq_true] at h' o'
    show (PyData.showable (D.py x) && PyData.showableAll (D.pys xs)) = true
    rw [D.py_showable x o'.1 h'.1, D.pys_showable xs o'.2 h'.2] <;> rfl
end
theorem keyPy_len (k : Key) (h : keyOk k = true) : (keyPy k).shown.length + 2 ≤ keyCost k := by
  cases k with
  | inl i =>
    have h' : i.natAbs.log2 < 1920 := of_decide_eq_true h
    have h2 := PySem.int_text_length_le (a := i) (k := 1920) (by decide) h'
    show (Str.ofString (toString i)).length + 2 ≤ 2002
    rw [ofString_length]
    omega
  | inr s =>
    have h' : PyData.strOk s = true := h
    have := StrLaws.reprText_len s fun c hc => by
      unfold PyData.strOk at h'
      rw [Array.all_eq_true_iff_forall_mem] at h'
      have := of_decide_eq_true (h' c (Array.mem_toList_iff.mp hc))
      exact Nat.lt_of_lt_of_le this (by decide)
    exact Nat.add_le_add_right this 2
theorem shownKv_len : ∀ (ks : List Key) (ds : List PyData), ks.all keyOk = true → ((PyData.shownKv ((ks.map keyPy).zip ds)).map (·.length)).sum + 2 * (PyData.shownKv ((ks.map keyPy).zip ds)).length ≤ (ks.map keyCost).sum + (((PyData.shownAll ds).map (·.length)).sum + 2 * (PyData.shownAll ds).length)
  | [], ds, _ => by rw [List.map_nil, List.zip_nil_left]; exact Nat.zero_le _
  | k :: ks, [], _ => by rw [List.zip_nil_right]; exact Nat.zero_le _
  | k :: ks, d :: ds, h => by
    rw [List.all_cons, Bool.and_eq_true] at h
    have h1 := keyPy_len k h.1
    have h2 := shownKv_len ks ds h.2
    show ((((keyPy k).shown ++ (": " : Str) ++ d.shown) :: PyData.shownKv ((ks.map keyPy).zip ds)).map (·.length)).sum + 2 * (((keyPy k).shown ++ (": " : Str) ++ d.shown) :: PyData.shownKv ((ks.map keyPy).zip ds)).length ≤ ((k :: ks).map keyCost).sum + (((d.shown :: PyData.shownAll ds).map (·.length)).sum + 2 * (d.shown :: PyData.shownAll ds).length)
    simp only [List.map_cons, List.sum_cons, List.length_cons, strLen_append]
    have : (": " : Str).length = 2 := rfl
    omega
mutual
theorem D.shown_len : ∀ d : D, d.okR = true → d.shows = true → d.py.shown.length ≤ d.cost
  | .non, _, _ => by show (4 : Nat) ≤ 8; decide
  | .bl true, _, _ => by show (4 : Nat) ≤ 8; decide
  | .bl false, _, _ => by show (5 : Nat) ≤ 8; decide
  | .int i, _, h => by
    have h' : i.natAbs.log2 < 1920 := of_decide_eq_true h
    have h2 := PySem.int_text_length_le (a := i) (k := 1920) (by decide) h'
    show (Str.ofString (toString i)).length ≤ 2000
    rw [ofString_length]
    omega
  | .str s, h, _ => by
    have h' : PyData.strOk s = true := h
    refine StrLaws.reprText_len s fun c hc => ?_
    unfold PyData.strOk at h'
    rw [Array.all_eq_true_iff_forall_mem] at h'
    have := of_decide_eq_true (h' c (Array.mem_toList_iff.mp hc))
    exact Nat.lt_of_lt_of_le this (by decide)
  | .tup xs, h, h2 => by
    have h1 := D.shown_lens xs h h2
    have h3 := tupleText_len_le (PyData.shownAll (D.pys xs))
    show (tupleText (PyData.shownAll (D.pys xs))).length ≤ D.costs xs + 3
    omega
  | .lst xs, h, h2 => by
    have h1 := D.shown_lens xs h h2
    have h3 := listText_len_le (PyData.shownAll (D.pys xs))
    show (listText (PyData.shownAll (D.pys xs))).length ≤ D.costs xs + 3
    omega
  | .ref _, h, _ => by cases h
  | .dic ks vs, h, h2 => by
    have o' : (ks.all keyOk && (decide (ks.length = vs.length) && D.oksR vs)) = true := h
    rw [Bool.and_eq_true, Bool.and_eq_true] at o'
    have h1 := D.shown_lens vs o'.2.2 h2
    have h3 := dictText_len_le (PyData.shownKv ((ks.map keyPy).zip (D.pys vs)))
    have h4 := shownKv_len ks (D.pys vs) o'.1
    show (dictText (PyData.shownKv ((ks.map keyPy).zip (D.pys vs)))).length ≤ (ks.map keyCost).sum + D.costs vs + 3
    omega
theorem D.shown_lens : ∀ xs : List D, D.oksR xs = true → D.showss xs = true → ((PyData.shownAll (D.pys xs)).map (·.length)).sum + 2 * (PyData.shownAll (D.pys xs)).length ≤ D.costs xs
  | [], _, _ => Nat.le_refl _
  | x :: xs, h, h2 => by
    have h' : (D.okR x && D.oksR xs) = true := h
    have h2' : (D.shows x && D.showss xs) = true := h2
    rw [Bool.and_eq_true] at h' h2'
    have q1 := D.shown_len x h'.1 h2'.1
    have q2 := D.shown_lens xs h'.2 h2'.2
    show (((PyData.shown (D.py x)) :: PyData.shownAll (D.pys xs)).map (·.length)).sum + 2 * ((PyData.shown (D.py x)) :: PyData.shownAll (D.pys xs)).length ≤ D.cost x + 2 + D.costs xs
    rw [List.map_cons, List.sum_cons, List.length_cons]
    omega
end
section
variable {K : PySem.W.Frag} {F : Hp}
mutual
theorem Is.dp : ∀ (d : D) (v : V), d.ok = true → Is K F v d → Dp K F v d.py
  | .non, _, _, h => by cases h; exact .non
  | .bl b, _, _, h => by cases h; exact .bl b
  | .int i, _, _, h => by cases h; exact .int i
  | .str x, _, _, h => by cases h; exact .str x
  | .tup ds, _, o, h => by
    cases h with
    | tup h1 h2 => exact .tup h1 (IsAll.dp ds _ o h2)
  | .lst ds, _, o, h => by
    cases h with
    | lst h1 h2 => exact .lst (.inl (.inl h1)) (IsAll.dp ds _ o h2)
  | .ref _, _, o, _ => by cases o
  | .dic _ _, _, o, _ => by cases o
theorem IsAll.dp : ∀ (ds : List D) (vs : List V), D.oks ds = true → IsAll K F vs ds → DpAll K F vs (D.pys ds)
  | [], _, _, h => by cases h; exact .nil
  | d :: ds, _, o, h => by
    have o' : (D.ok d && D.oks ds) = true := o
    rw [Bool.and_eq_true] at o'
    cases h with
    | cons h1 h2 => exact .cons (Is.dp d _ o'.1 h1) (IsAll.dp ds _ o'.2 h2)
end
theorem IsB.dp {g : Gd} {H : Hp} {v : V} {d : D} (s : Ex F H) (h : IsB K g F H v d) (o : d.ok = true) : Dp K H v d.py := by
  rcases h with h | ⟨a, vs, xs, rfl, rfl, h1, _, h3⟩
  · exact Is.dp d v o (h.up s)
  · exact .lst (.inl (.inl h1)) (IsAll.dp xs vs o (h3.up s))
end
/-- == of data -/
def eqD (a b : D) : Bool := PyData.eqv a.py b.py
end DL

/-! DL3: operators, comparisons, tests, displays, subscripts, built-in calls over data. -/
namespace DL
open PySem L2
abbrev LN : Nat := 1000000
theorem LN_line {n : Nat} (h : n ≤ LN) : n ≤ sizeLine := Nat.le_trans h (by decide)
theorem LN_lt {n : Nat} (h : n ≤ LN) : n < sizeLine := Nat.lt_of_le_of_lt h (by decide)
section
variable {X : Cx} {g : Gd} {E : XK} {m : List Nat} {a b : Expr} {fa fb : FE} {pos : Pos}

/-! ### + -/
def sAdd : D → D → (D → Prop) → XD → Prop := fun a b q _ => match a, b with
  | .int i, .int j => q (.int (i + j))
  | .lst xs, .lst ys => xs.length + ys.length ≤ LN ∧ q (.lst (xs ++ ys))
  | .tup xs, .tup ys => xs.length + ys.length ≤ LN ∧ q (.tup (xs ++ ys))
  | .str x, .str y => x.length + y.length ≤ LN ∧ q (.str (x ++ y))
  | _, _ => False
def rAdd4 (K : PySem.W.Frag) : R2 := fun x y H Q => rI0 (fun i j => .int (i + j)) x y H Q ∨ rCat x y H Q ∨ rCatA K x y H Q ∨ (∃ i j, x = .str i ∧ y = .str j ∧ i.length + j.length ≤ sizeLine ∧ Q (.str (i ++ j)) H)
theorem op_add4 : OpR X (binaryOp .Add) (rAdd4 X.K) := op_add.or (op_cat.or (op_catA.or op_add_str))
theorem sem_add {K : PySem.W.Frag} : Sem2 K (rAdd4 K) sAdd := by
  intro g E H F v w a b q x Q r ia ib hs hq hx
  unfold sAdd at hs
  split at hs
  · exact .inl ⟨_, _, ia.int, ib.int, hq _ H F _ r (.int _) hs⟩
  · obtain ⟨hl, hs⟩ := hs
    obtain ⟨p, xs, rfl, h1, h2⟩ := ia.lst r.sub
    obtain ⟨p', ys, rfl, h1', h2'⟩ := ib.lst r.sub
    have e1 := h2.length
    have e2 := h2'.length
    exact .inr (.inl ⟨_, _, _, _, rfl, rfl, h1, h1', LN_line (by omega), fun p hp => hq _ _ (upd F p _) _ (r.new hp) (.lst upd_same ((h2.append h2').up (r.new (o := .lst (xs ++ ys)) hp).f0)) hs⟩)
  · obtain ⟨hl, hs⟩ := hs
    obtain ⟨p, xs, rfl, h1, h2⟩ := ia.tup
    obtain ⟨p', ys, rfl, h1', h2'⟩ := ib.tup
    have e1 := h2.length
    have e2 := h2'.length
    refine .inr (.inr (.inl ⟨_, _, _, _, rfl, rfl, r.sub.sqT h1, r.sub.sqT h1', LN_line (by omega), fun z => ?_, fun z1 z2 => ?_, fun z1 z2 p hp => ?_⟩))
    · subst z
      cases h2
      exact hq _ H F _ r (.tup h1' h2') hs
    · subst z2
      cases h2'
      rw [List.append_nil] at hs
      exact hq _ H F _ r (.tup h1 h2) hs
    · exact hq _ _ (upd F p _) _ (r.new hp) (.tup (.inl (.inl upd_same)) ((h2.append h2').up (r.new (o := .tup (xs ++ ys)) hp).f0)) hs
  · obtain ⟨hl, hs⟩ := hs
    exact .inr (.inr (.inr ⟨_, _, ia.str, ib.str, LN_line hl, hq _ H F _ r (.str _) hs⟩))
  · exact hs.elim
theorem de_add (ha : DB X g E m a fa) (hb : DB X g E m b fb) : DE X g E m (.BinOp a .Add b pos) (f2 sAdd fa fb) := de_2 (pe_op op_add4 ha hb) sem_add
/-- xs + ys, ours -/
def sCat : D → D → (D → Prop) → XD → Prop := fun a b q _ => match a, b with
  | .lst xs, .lst ys => xs.length + ys.length ≤ LN ∧ q (.lst (xs ++ ys))
  | _, _ => False
theorem sem_cat {K : PySem.W.Frag} : Sem2F K rCat sCat := by
  intro g E H F v w a b q x Q r ia ib hs hq hx
  unfold sCat at hs
  split at hs
  · obtain ⟨hl, hs⟩ := hs
    obtain ⟨p, xs, rfl, h1, h2⟩ := ia.lst r.sub
    obtain ⟨p', ys, rfl, h1', h2'⟩ := ib.lst r.sub
    have e1 := h2.length
    have e2 := h2'.length
    exact ⟨_, _, _, _, rfl, rfl, h1, h1', LN_line (by omega), fun p hp => hq p _ F _ _ (r.newO hp) hp upd_same (r.freeF hp) (h2.append h2') hs⟩
  · exact hs.elim
theorem df_cat (ha : DB X g E m a fa) (hb : DB X g E m b fb) : DF X g E m (.BinOp a .Add b pos) (f2 sCat fa fb) := df_2 (pe_op op_cat ha hb) sem_cat

/-! ### -, *, //, %, ** -/
theorem de_sub (ha : DB X g E m a fa) (hb : DB X g E m b fb) : DE X g E m (.BinOp a .Sub b pos) (f2 (sI0 fun i j => .int (i - j)) fa fb) := de_2 (pe_op op_sub ha hb) (sem_I0 fun i j _ => .int (i - j))
theorem op_mulO : OpR X (binaryOp .Mult) (rI IntMulOk fun i j => .int (i * j)) := opI fun _ _ _ _ _ _ _ hc q => PyProof.Rows.mul_int q hc
theorem de_mul (ha : DB X g E m a fa) (hb : DB X g E m b fb) : DE X g E m (.BinOp a .Mult b pos) (f2 (sI IntMulOk fun i j => .int (i * j)) fa fb) := de_2 (pe_op op_mulO ha hb) (sem_I fun i j _ => .int (i * j))
def DivOk (i j : Int) : Prop := j ≠ 0 ∧ Builtin.divisionGoesByPylong i j = false
theorem op_divO : OpR X (binaryOp .FloorDiv) (rI DivOk fun i j => .int (i.fdiv j)) := opI fun _ _ _ _ _ _ _ hc q => PyProof.Rows.floordiv_int hc.1 q (.inl hc.2)
theorem de_div (ha : DB X g E m a fa) (hb : DB X g E m b fb) : DE X g E m (.BinOp a .FloorDiv b pos) (f2 (sI DivOk fun i j => .int (i.fdiv j)) fa fb) := de_2 (pe_op op_divO ha hb) (sem_I fun i j _ => .int (i.fdiv j))
theorem de_mod (ha : DB X g E m a fa) (hb : DB X g E m b fb) : DE X g E m (.BinOp a .Mod b pos) (f2 (sI (fun _ j => j ≠ 0) fun i j => .int (i.fmod j)) fa fb) := de_2 (pe_op op_modN ha hb) (sem_I fun i j _ => .int (i.fmod j))
theorem de_pow (ha : DB X g E m a fa) (hb : DB X g E m b fb) : DE X g E m (.BinOp a .Pow b pos) (f2 (sI CPow fun i j => .int (i ^ j.toNat)) fa fb) := de_2 (pe_op op_pow ha hb) (sem_I fun i j _ => .int (i ^ j.toNat))
def sNeg : D → (D → Prop) → XD → Prop := fun a q _ => match a with | .int i => q (.int (-i)) | _ => False
theorem de_neg (ha : DB X g E m a fa) : DE X g E m (.UnaryOp .USub a pos) (f1 sNeg fa) := de_1 (pe_un un_neg ha) fun g E H F v a q x Q r ia hs hq hx => by
  unfold sNeg at hs
  split at hs
  · exact ⟨_, ia.int, hq _ H F _ r (.int _) hs⟩
  · exact hs.elim

/-! ### [x] * n, (x,) * n -/
def sRep : D → D → (D → Prop) → XD → Prop := fun a b q _ => match a, b with
  | .lst xs, .int k => xs.length * k.toNat ≤ LN ∧ -1000000 ≤ k ∧ k ≤ 1000000 ∧ q (.lst (List.replicate k.toNat xs).flatten)
  | _, _ => False
theorem IsAll.repF {K : PySem.W.Frag} {F : Hp} {xs : List V} {ds : List D} (h : IsAll K F xs ds) : ∀ n : Nat, IsAll K F (List.replicate n xs).flatten (List.replicate n ds).flatten
  | 0 => .nil
  | n + 1 => by
    rw [List.replicate_succ, List.replicate_succ, List.flatten_cons, List.flatten_cons]
    exact h.append (h.repF n)
theorem sem_rep {K : PySem.W.Frag} : Sem2F K rRep sRep := by
  intro g E H F v w a b q x Q r ia ib hs hq hx
  unfold sRep at hs
  split at hs
  · obtain ⟨hl, hk1, hk2, hs⟩ := hs
    obtain ⟨p, xs, rfl, h1, h2⟩ := ia.lst r.sub
    have e1 := h2.length
    exact ⟨_, _, _, rfl, ib.int, h1, by omega, by omega, LN_line (by rw [e1]; exact hl), fun p hp => hq p _ F _ _ (r.newO hp) hp upd_same (r.freeF hp) (h2.repF _) hs⟩
  · exact hs.elim
theorem df_rep (ha : DB X g E m a fa) (hb : DB X g E m b fb) : DF X g E m (.BinOp a .Mult b pos) (f2 sRep fa fb) := df_2 (pe_op op_rep ha hb) sem_rep

/-! ### comparisons -/
def sCmp (h : Int → Int → Bool) : D → D → (D → Prop) → XD → Prop := sI0 fun i j => .bl (h i j)
theorem sem_cmp {K : PySem.W.Frag} {h : Int → Int → Bool} : Sem2 K (rI0 fun i j => .bl (h i j)) (sCmp h) := sem_I0 fun i j _ => .bl (h i j)
def lt' (i j : Int) : Bool := decide (i < j)
def le' (i j : Int) : Bool := decide (i ≤ j)
def gt' (i j : Int) : Bool := decide (j < i)
def ge' (i j : Int) : Bool := decide (j ≤ i)
/-- one comparison's operator on data -/
def CmpD (X : Cx) (op : CmpOp) (sem : D → D → (D → Prop) → XD → Prop) : Prop := ∃ r, OpR X (compareOp op) r ∧ Sem2 X.K r sem
theorem cd_lt : CmpD X .Lt (sCmp lt') := ⟨_, op_lt, sem_cmp⟩
theorem cd_le : CmpD X .LtE (sCmp le') := ⟨_, op_le, sem_cmp⟩
theorem cd_gt : CmpD X .Gt (sCmp gt') := ⟨_, op_gt, sem_cmp⟩
theorem cd_ge : CmpD X .GtE (sCmp ge') := ⟨_, op_ge, sem_cmp⟩
/-- ==, neg: != -/
def sEq (neg : Bool) : D → D → (D → Prop) → XD → Prop := fun a b q _ => match a, b with
  | .int i, .int j => q (.bl (neg ^^ decide (i = j)))
  | .str i, .str j => q (.bl (neg ^^ decide (i = j)))
  | a, b => a.ok = true ∧ b.ok = true ∧ a.dep ≤ 64 ∧ b.dep ≤ 64 ∧ q (.bl (neg ^^ eqD a b))
theorem sem_eq {K : PySem.W.Frag} : Sem2 K (fun x y H Q => rEq x y H Q ∨ rEqD K x y H Q) (sEq false) := by
  intro g E H F v w a b q x Q r ia ib hs hq hx
  unfold sEq at hs
  split at hs
  · rename_i i j
    rw [ia.int, ib.int]
    refine .inl ⟨rfl, ?_⟩
    have e : decide (V.int i = V.int j) = (false ^^ decide (i = j)) := by rw [dec_int, Bool.false_xor, Bool.beq_eq_decide_eq]
    rw [e]
    exact hq _ H F _ r (.bl _) hs
  · rename_i i j
    rw [ia.str, ib.str]
    refine .inl ⟨rfl, ?_⟩
    have e : decide (V.str i = V.str j) = (false ^^ decide (i = j)) := by rw [dec_str, Bool.false_xor, Bool.beq_eq_decide_eq]
    rw [e]
    exact hq _ H F _ r (.bl _) hs
  · obtain ⟨o1, o2, d1, d2, hs⟩ := hs
    refine .inr ⟨_, _, ia.dp r.sub o1, ib.dp r.sub o2, D.shaped o1 d1, D.shaped o2 d2, ?_⟩
    rw [Bool.false_xor] at hs
    exact hq _ H F _ r (.bl _) hs
theorem sem_ne {K : PySem.W.Frag} : Sem2 K (fun x y H Q => rNe x y H Q ∨ rNeD K x y H Q) (sEq true) := by
  intro g E H F v w a b q x Q r ia ib hs hq hx
  unfold sEq at hs
  split at hs
  · rename_i i j
    rw [ia.int, ib.int]
    refine .inl ⟨rfl, ?_⟩
    have e : (!decide (V.int i = V.int j)) = (true ^^ decide (i = j)) := by rw [dec_int, Bool.true_xor, Bool.beq_eq_decide_eq]
    rw [e]
    exact hq _ H F _ r (.bl _) hs
  · rename_i i j
    rw [ia.str, ib.str]
    refine .inl ⟨rfl, ?_⟩
    have e : (!decide (V.str i = V.str j)) = (true ^^ decide (i = j)) := by rw [dec_str, Bool.true_xor, Bool.beq_eq_decide_eq]
    rw [e]
    exact hq _ H F _ r (.bl _) hs
  · obtain ⟨o1, o2, d1, d2, hs⟩ := hs
    refine .inr ⟨_, _, ia.dp r.sub o1, ib.dp r.sub o2, D.shaped o1 d1, D.shaped o2 d2, ?_⟩
    rw [Bool.true_xor] at hs
    exact hq _ H F _ r (.bl _) hs
theorem cd_eq (hu : X.A.units + 64 < cLine) : CmpD X .Eq (sEq false) := ⟨_, op_eq.or (op_eqD hu), sem_eq⟩
theorem cd_ne (hu : X.A.units + 64 < cLine) : CmpD X .NotEq (sEq true) := ⟨_, op_ne.or (op_neD hu), sem_ne⟩
/-- in, neg: not in; of a tuple or a list of data -/
def sIn (neg : Bool) : D → D → (D → Prop) → XD → Prop := fun a b q _ => match b with
  | .tup ys => a.ok = true ∧ D.oks ys = true ∧ a.dep ≤ 64 ∧ D.deps ys ≤ 63 ∧ q (.bl (neg ^^ ys.any fun y => eqD y a))
  | .lst ys => a.ok = true ∧ D.oks ys = true ∧ a.dep ≤ 64 ∧ D.deps ys ≤ 63 ∧ q (.bl (neg ^^ ys.any fun y => eqD y a))
  | _ => False
def rInDD (K : PySem.W.Frag) (neg : Bool) : R2 := fun x y H Q => ∃ d ds, Dp K H x d ∧ (Dp K H y (.tuple ds) ∨ Dp K H y (.list ds)) ∧ SeqAt.shaped d = true ∧ SeqAt.shaped (.list ds) = true ∧ SeqAt.shaped (.tuple ds) = true ∧ Q (.bl (neg ^^ ds.any fun y => PyData.eqv y d)) H
theorem op_inDD (hu : X.A.units + 65 < cLine) : OpR X (compareOp .In) (rInDD X.K false) := by
  intro pins s σ H x y v u Q I rx ry h
  obtain ⟨d, ds, hd, he, sd, se, st, q⟩ := h
  rw [Bool.false_xor] at q
  obtain ⟨as, r1⟩ := Dp.reads I d x v hd rx
  rcases he with he | he
  · obtain ⟨bs, r2⟩ := Dp.reads I (.tuple ds) y u he ry
    exact SeqAt.in_tuple_reads r2 r1 (SeqAt.canLay_of_shaped st) (SeqAt.canLay_of_shaped sd) (PyProof.Rows.room_in_shaped sd hu) ⟨.bl _, H, I, rfl, q⟩
  · obtain ⟨bs, r2⟩ := Dp.reads I (.list ds) y u he ry
    exact SeqAt.in_list_reads r2 r1 (SeqAt.canLay_of_shaped se) (SeqAt.canLay_of_shaped sd) (PyProof.Rows.room_in_shaped sd hu) ⟨.bl _, H, I, rfl, q⟩
theorem op_notInDD (hu : X.A.units + 65 < cLine) : OpR X (compareOp .NotIn) (rInDD X.K true) := by
  intro pins s σ H x y v u Q I rx ry h
  obtain ⟨d, ds, hd, he, sd, se, st, q⟩ := h
  rw [Bool.true_xor] at q
  obtain ⟨as, r1⟩ := Dp.reads I d x v hd rx
  rcases he with he | he
  · obtain ⟨bs, r2⟩ := Dp.reads I (.tuple ds) y u he ry
    exact SeqAt.notIn_tuple_reads r2 r1 (SeqAt.canLay_of_shaped st) (SeqAt.canLay_of_shaped sd) (PyProof.Rows.room_in_shaped sd hu) ⟨.bl _, H, I, rfl, q⟩
  · obtain ⟨bs, r2⟩ := Dp.reads I (.list ds) y u he ry
    exact SeqAt.notIn_list_reads r2 r1 (SeqAt.canLay_of_shaped se) (SeqAt.canLay_of_shaped sd) (PyProof.Rows.room_in_shaped sd hu) ⟨.bl _, H, I, rfl, q⟩
theorem D.pys_any (d : PyData) : ∀ ys : List D, (D.pys ys).any (fun y => PyData.eqv y d) = ys.any fun y => PyData.eqv y.py d
  | [] => rfl
  | y :: ys => by
    show (PyData.eqv y.py d || (D.pys ys).any fun y => PyData.eqv y d) = (PyData.eqv y.py d || ys.any fun y => PyData.eqv y.py d)
    rw [D.pys_any d ys]
theorem D.shapeds {ys : List D} (h : D.oks ys = true) (h2 : D.deps ys ≤ 63) : SeqAt.shaped (.list (D.pys ys)) = true ∧ SeqAt.shaped (.tuple (D.pys ys)) = true :=
  ⟨D.shaped (d := .lst ys) h (by show D.deps ys + 1 ≤ 64; omega), D.shaped (d := .tup ys) h (by show D.deps ys + 1 ≤ 64; omega)⟩
theorem sem_in {K : PySem.W.Frag} {neg : Bool} : Sem2 K (rInDD K neg) (sIn neg) := by
  intro g E H F v w a b q x Q r ia ib hs hq hx
  unfold sIn at hs
  split at hs
  · rename_i ys
    obtain ⟨o1, o2, d1, d2, hs⟩ := hs
    obtain ⟨s1, s2⟩ := D.shapeds o2 d2
    have i2 : Dp K H w (D.py (.tup ys)) := ib.dp r.sub o2
    refine ⟨_, D.pys ys, ia.dp r.sub o1, .inl i2, D.shaped o1 d1, s1, s2, ?_⟩
    rw [D.pys_any]
    exact hq _ H F _ r (.bl _) hs
  · rename_i ys
    obtain ⟨o1, o2, d1, d2, hs⟩ := hs
    obtain ⟨s1, s2⟩ := D.shapeds o2 d2
    have i2 : Dp K H w (D.py (.lst ys)) := ib.dp r.sub o2
    refine ⟨_, D.pys ys, ia.dp r.sub o1, .inr i2, D.shaped o1 d1, s1, s2, ?_⟩
    rw [D.pys_any]
    exact hq _ H F _ r (.bl _) hs
  · exact hs.elim
theorem cd_in (hu : X.A.units + 65 < cLine) : CmpD X .In (sIn false) := ⟨_, op_inDD hu, sem_in⟩
theorem cd_notIn (hu : X.A.units + 65 < cLine) : CmpD X .NotIn (sIn true) := ⟨_, op_notInDD hu, sem_in⟩
/-- is None, is not None -/
def D.isNon : D → Bool
  | .non => true
  | _ => false
def sIsN (neg : Bool) : D → D → (D → Prop) → XD → Prop := fun a b q _ => match b with
  | .non => q (.bl (neg ^^ a.isNon))
  | _ => False
theorem IsB.non {K : PySem.W.Frag} {g : Gd} {F H : Hp} {v : V} (h : IsB K g F H v .non) : v = .non := by
  rcases h with h | ⟨_, _, _, _, z, _⟩
  · cases h; rfl
  · cases z
theorem IsB.isNon {K : PySem.W.Frag} {g : Gd} {F H : Hp} {v : V} {a : D} (h : IsB K g F H v a) : decide (v = .non) = a.isNon := by
  rcases h with h | ⟨_, _, _, rfl, rfl, _⟩
  · cases h <;> rfl
  · rfl
theorem cd_isN : CmpD X .Is (sIsN false) := ⟨_, op_isN, fun g E H F v w a b q x Q r ia ib hs hq hx => by
  unfold sIsN at hs
  split at hs
  · rw [Bool.false_xor, ← ia.isNon] at hs
    exact ⟨ib.non, hq _ H F _ r (.bl _) hs⟩
  · exact hs.elim⟩
theorem cd_isNotN : CmpD X .IsNot (sIsN true) := ⟨_, op_notN, fun g E H F v w a b q x Q r ia ib hs hq hx => by
  unfold sIsN at hs
  split at hs
  · rw [Bool.true_xor, ← ia.isNon] at hs
    exact ⟨ib.non, hq _ H F _ r (.bl _) hs⟩
  · exact hs.elim⟩
theorem de_cmp {op : CmpOp} {sem : D → D → (D → Prop) → XD → Prop} (c : CmpD X op sem) (ha : DB X g E m a fa) (hb : DB X g E m b fb) (hm : behindInMarks op b = false := by first | exact nomark _ | rfl) :
    DE X g E m (.Compare a [op] [b] pos) (f2 sem fa fb) := by
  obtain ⟨r, c1, c2⟩ := c
  exact de_2 (pe_cmpR c1 ha hb hm) c2
/-! ### tests -/
/-- data as a test: a truth value -/
def fTest (f : FE) : FT := fun ρ q x => f ρ (fun d => match d with | .bl b => q b | _ => False) x
theorem dt_of {e : Expr} {f : FE} (h : PE X e (tE X.K g E m f)) (hp : ∀ t, PE X e t → PT X e (L2.tB t)) : DT X g E m e (fTest f) := PTimp (hp _ h) fun σ H Q ⟨H0, F0, F, ρ, q, x, R, hf, hq, hx⟩ =>
  ⟨H0, F0, F, ρ, _, x, R, hf, fun v H' F' d r i hd => by
    split at hd
    · rename_i b
      cases i
      exact ⟨b, rfl, hq b H' F' r hd⟩
    · exact hd.elim, hx⟩
/-- a call, a name: a truth value by itself -/
theorem dt_val {e : Expr} {f : FE} (h : DE X g E m e f) (he : ∀ whole, isTrue e X.env whole = (do let v ← whole; standAt e.pos; holding [v] (truthy v)) := by intro _; rfl) : DT X g E m e (fTest f) := dt_of h fun t ht => pt_val ht he
theorem dt_cmp {op : CmpOp} {sem : D → D → (D → Prop) → XD → Prop} (c : CmpD X op sem) (ha : DB X g E m a fa) (hb : DB X g E m b fb) (hm : behindInMarks op b = false := by first | exact nomark _ | rfl) :
    DT X g E m (.Compare a [op] [b] pos) (fTest (f2 sem fa fb)) := by
  obtain ⟨r, c1, c2⟩ := c
  refine PTimp (pt_cmpR c1 ha hb hm) fun σ H Q ⟨H0, F0, F, ρ, q, x, R, hf, hq, hx⟩ => ?_
  refine ⟨H0, F0, F, ρ, _, x, R, hf, fun v H1 F1 d r1 i1 hb => ?_, hx⟩
  refine ⟨H0, F0, F1, ρ, _, x, R.step r1, hb, fun w H2 F2 d2 r2 i2 hs2 => ?_, hx.step r1⟩
  refine c2 g E H2 F2 v w d d2 _ x _ ((R.step r1).step r2).fr.self (i1.up r2) i2 hs2 (fun u H' F' d' r3 i3 hd => ?_) ((hx.step r1).step r2)
  split at hd
  · rename_i b
    cases i3
    exact ⟨b, rfl, hq b H' F' (r1.trans (r2.trans r3)) hd⟩
  · exact hd.elim
def gNot (f : FT) : FT := fun ρ q x => f ρ (fun b => q (!b)) x
def gAnd (f f' : FT) : FT := fun ρ q x => f ρ (fun b => if b = true then f' ρ q x else q false) x
def gOr (f f' : FT) : FT := fun ρ q x => f ρ (fun b => if b = true then q true else f' ρ q x) x
variable {f f' : FT} {rest : List Expr}
theorem dt_not (h : DT X g E m a f) : DT X g E m (.UnaryOp .Not a pos) (gNot f) := PTimp (pt_not h) fun σ H Q ⟨H0, F0, F, ρ, q, x, R, hf, hq, hx⟩ =>
  ⟨H0, F0, F, ρ, _, x, R, hf, fun b H' F' r hb => hq _ H' F' r hb, hx⟩
theorem dw_and1 (h : DT X g E m a f) : DW X g E m (.BoolOp .And [a] pos) f := pw_and1 h
theorem dw_or1 (h : DT X g E m a f) : DW X g E m (.BoolOp .Or [a] pos) f := pw_or1 h
theorem dw_and (h : DT X g E m a f) (h' : DW X g E m (.BoolOp .And (b :: rest) pos) f') : DW X g E m (.BoolOp .And (a :: b :: rest) pos) (gAnd f f') := PWimp (pw_and h h') fun σ H Q ⟨H0, F0, F, ρ, q, x, R, hf, hq, hx⟩ =>
  ⟨H0, F0, F, ρ, _, x, R, hf, fun b H' F' r hb => by
    cases b with
    | true =>
      rw [if_pos rfl] at hb ⊢
      exact ⟨H0, F0, F', ρ, q, x, R.step r, hb, fun b H2 F2 r2 h2 => hq b H2 F2 (r.trans r2) h2, hx.step r⟩
    | false =>
      rw [if_neg Bool.false_ne_true] at hb ⊢
      exact hq _ H' F' r hb, hx⟩
theorem dw_or (h : DT X g E m a f) (h' : DW X g E m (.BoolOp .Or (b :: rest) pos) f') : DW X g E m (.BoolOp .Or (a :: b :: rest) pos) (gOr f f') := PWimp (pw_or h h') fun σ H Q ⟨H0, F0, F, ρ, q, x, R, hf, hq, hx⟩ =>
  ⟨H0, F0, F, ρ, _, x, R, hf, fun b H' F' r hb => by
    cases b with
    | false =>
      rw [if_neg Bool.false_ne_true] at hb ⊢
      exact ⟨H0, F0, F', ρ, q, x, R.step r, hb, fun b H2 F2 r2 h2 => hq b H2 F2 (r.trans r2) h2, hx.step r⟩
    | true =>
      rw [if_pos rfl] at hb ⊢
      exact hq _ H' F' r hb, hx⟩
theorem dw_pt {e : Expr} (h : DW X g E m e f) : DT X g E m e f := h.pt
/-- and, or, not as values, of truth values -/
def fBl (f : FT) : FE := fun ρ q x => f ρ (fun b => q (.bl b)) x
def hAnd (f f' : FE) : FE := fun ρ q x => f ρ (fun d => match d with | .bl b => if b = true then f' ρ q x else q (.bl false) | _ => False) x
def hOr (f f' : FE) : FE := fun ρ q x => f ρ (fun d => match d with | .bl b => if b = true then q (.bl true) else f' ρ q x | _ => False) x
def hNot (f : FE) : FE := fun ρ q x => f ρ (fun d => match d with | .bl b => q (.bl (!b)) | _ => False) x
theorem de_one {op : BoolOp} (h : DE X g E m a fa) : DE X g E m (.BoolOp op [a] pos) fa := pe_one h
theorem de_and (h : DE X g E m a fa) (h' : DE X g E m (.BoolOp .And (b :: rest) pos) fb) : DE X g E m (.BoolOp .And (a :: b :: rest) pos) (hAnd fa fb) := PEimp (pe_and h h') fun σ H Q ⟨H0, F0, F, ρ, q, x, R, hf, hq, hx⟩ =>
  ⟨H0, F0, F, ρ, _, x, R, hf, fun v H' F' d r i hd => by
    split at hd
    · rename_i b
      cases i
      refine ⟨b, rfl, ?_⟩
      cases b with
      | true =>
        rw [if_pos rfl] at hd ⊢
        exact ⟨H0, F0, F', ρ, q, x, R.step r, hd, fun v H2 F2 d r2 i2 h2 => hq v H2 F2 d (r.trans r2) i2 h2, hx.step r⟩
      | false =>
        rw [if_neg Bool.false_ne_true] at hd ⊢
        exact hq _ H' F' _ r (.bl _) hd
    · exact hd.elim, hx⟩
theorem de_or (h : DE X g E m a fa) (h' : DE X g E m (.BoolOp .Or (b :: rest) pos) fb) : DE X g E m (.BoolOp .Or (a :: b :: rest) pos) (hOr fa fb) := PEimp (pe_or h h') fun σ H Q ⟨H0, F0, F, ρ, q, x, R, hf, hq, hx⟩ =>
  ⟨H0, F0, F, ρ, _, x, R, hf, fun v H' F' d r i hd => by
    split at hd
    · rename_i b
      cases i
      refine ⟨b, rfl, ?_⟩
      cases b with
      | false =>
        rw [if_neg Bool.false_ne_true] at hd ⊢
        exact ⟨H0, F0, F', ρ, q, x, R.step r, hd, fun v H2 F2 d r2 i2 h2 => hq v H2 F2 d (r.trans r2) i2 h2, hx.step r⟩
      | true =>
        rw [if_pos rfl] at hd ⊢
        exact hq _ H' F' _ r (.bl _) hd
    · exact hd.elim, hx⟩
theorem de_not (h : DE X g E m a fa) : DE X g E m (.UnaryOp .Not a pos) (hNot fa) := PEimp (pe_not h) fun σ H Q ⟨H0, F0, F, ρ, q, x, R, hf, hq, hx⟩ =>
  ⟨H0, F0, F, ρ, _, x, R, hf, fun v H' F' d r i hd => by
    split at hd
    · cases i
      exact ⟨_, rfl, hq _ H' F' _ r (.bl _) hd⟩
    · exact hd.elim, hx⟩
/-- a if t else b -/
def fIf (t : FT) (fa fb : FE) : FE := fun ρ q x => t ρ (fun c => if c = true then fa ρ q x else fb ρ q x) x
theorem de_if {c : Expr} (hc : DT X g E m c f) (ha : DE X g E m a fa) (hb : DE X g E m b fb) : DE X g E m (.IfExp c a b pos) (fIf f fa fb) := PEimp (pe_ifExp hc ha hb) fun σ H Q ⟨H0, F0, F, ρ, q, x, R, hf, hq, hx⟩ =>
  ⟨H0, F0, F, ρ, _, x, R, hf, fun c H' F' r hd => by
    cases c with
    | true =>
      rw [if_pos rfl] at hd ⊢
      exact ⟨H0, F0, F', ρ, q, x, R.step r, hd, fun v H2 F2 d r2 i2 h2 => hq v H2 F2 d (r.trans r2) i2 h2, hx.step r⟩
    | false =>
      rw [if_neg Bool.false_ne_true] at hd ⊢
      exact ⟨H0, F0, F', ρ, q, x, R.step r, hd, fun v H2 F2 d r2 i2 h2 => hq v H2 F2 d (r.trans r2) i2 h2, hx.step r⟩, hx⟩

/-! ### arguments, displays -/
def fNil : FA := fun _ q _ => q []
def fCons (f : FE) (r : FA) : FA := fun ρ q x => f ρ (fun d => r ρ (fun ds => q (d :: ds)) x) x
variable {e : Expr} {es : List Expr} {fe : FE} {fs : FA}
theorem da_nil : DA X g E m [] fNil := PAimp pa_nil fun σ H Q ⟨H0, F0, F, ρ, q, x, R, hf, hq, hx⟩ => hq [] H F [] R.fr.self .nil hf
theorem da_cons (h : DE X g E m e fe) (hr : DA X g E m es fs) (hs : starEach (e :: es) X.env = (false, eval e X.env) :: starEach es X.env := by rfl) : DA X g E m (e :: es) (fCons fe fs) := PAimp (pa_cons h hr hs) fun σ H Q ⟨H0, F0, F, ρ, q, x, R, hf, hq, hx⟩ =>
  ⟨H0, F0, F, ρ, _, x, R, hf, fun v H1 F1 d r1 i1 hd => ⟨H0, F0, F1, ρ, _, x, R.step r1, hd, fun vs H2 F2 ds r2 i2 h2 => hq _ H2 F2 _ (r1.trans r2) (.cons (i1.up r2.f0) i2) h2, hx.step r1⟩, hx⟩
def fTup (f : FA) : FE := fun ρ q x => f ρ (fun ds => ds.length ≤ LN ∧ q (.tup ds)) x
def fLst (f : FA) : FE := fun ρ q x => f ρ (fun ds => ds.length ≤ LN ∧ q (.lst ds)) x
theorem de_tup {k : Nat} (h : DA X g E m es fs) : DE X g E m (.Tuple es k pos) (fTup fs) := PEimp (pe_tup h) fun σ H Q ⟨H0, F0, F, ρ, q, x, R, hf, hq, hx⟩ =>
  ⟨H0, F0, F, ρ, _, x, R, hf, fun vs H1 F1 ds r1 i1 hd => ⟨LN_line (by rw [i1.length]; exact hd.1), fun p hp => hq _ _ (upd F1 p (.tup vs)) _ (r1.trans ((R.step r1).fr.new hp)) (.tup (.inl (.inl upd_same)) (i1.up ((R.step r1).fr.new (o := .tup vs) hp).f0)) hd.2⟩, hx⟩
theorem df_lst (h : DA X g E m es fs) : DF X g E m (.List es pos) (fLst fs) := PEimp (pe_lst h) fun σ H Q ⟨H0, F0, F, ρ, q, x, R, hf, hq, hx⟩ =>
  ⟨H0, F0, F, ρ, _, x, R, hf, fun vs H1 F1 ds r1 i1 hd => ⟨LN_line (by rw [i1.length]; exact hd.1), fun p hp => hq p _ F1 _ _ (r1.trans ((R.step r1).fr.newO hp)) (r1.back hp) upd_same ((R.step r1).fr.freeF hp) i1 hd.2⟩, hx⟩

/-! ### subscripts -/
def sIx : D → D → (D → Prop) → XD → Prop := fun a b q _ => match a, b with
  | .tup xs, .int i => match atI xs i with | some d => q d | none => False
  | .lst xs, .int i => match atI xs i with | some d => q d | none => False
  | _, _ => False
theorem IsAll.at {K : PySem.W.Frag} {F : Hp} {vs : List V} {ds : List D} (h : IsAll K F vs ds) {i : Int} {d : D} (e : atI ds i = some d) : ∃ v, atI vs i = some v ∧ Is K F v d := by
  unfold atI at e ⊢
  rw [h.length]
  cases hi : ixN ds.length i with
  | none => rw [hi] at e; cases e
  | some j =>
    rw [hi] at e
    exact h.get (show ds[j]? = some d from e)
theorem IsB.lst' {K : PySem.W.Frag} {g : Gd} {F H : Hp} {v : V} {ds : List D} (s : Ex F H) (h : IsB K g F H v (.lst ds)) : ∃ a xs, v = .ref a ∧ SqL K H a xs ∧ IsAll K F xs ds := by
  obtain ⟨a, xs, h1, h2, h3⟩ := h.lst s
  exact ⟨a, xs, h1, .inl (.inl h2), h3⟩
theorem sem_ix {K : PySem.W.Frag} : Sem2 K (rIx K) sIx := by
  intro g E H F v w a b q x Q r ia ib hs hq hx
  unfold sIx at hs
  split at hs
  · split at hs
    · rename_i d e
      obtain ⟨p, ys, rfl, h1, h2⟩ := ia.tup
      obtain ⟨y, e1, e2⟩ := h2.at e
      exact .inr (.inl ⟨_, _, _, _, rfl, ib.int, r.sub.sqT h1, e1, hq _ H F _ r e2 hs⟩)
    · exact hs.elim
  · split at hs
    · rename_i d e
      obtain ⟨p, ys, rfl, h1, h2⟩ := ia.lst' r.sub
      obtain ⟨y, e1, e2⟩ := h2.at e
      exact .inl ⟨_, _, _, _, rfl, ib.int, h1, e1, hq _ H F _ r e2 hs⟩
    · exact hs.elim
  · exact hs.elim
theorem de_ix (ha : DB X g E m a fa) (hb : DB X g E m b fb) (hs : PlainIx b := by exact fun _ _ => rfl) : DE X g E m (.Subscript a b pos) (f2 sIx fa fb) := de_2 (pe_ix ix_seq ha hb hs) sem_ix
/-- a slice's part -/
abbrev FO := Ro → (Option Int → Prop) → XD → Prop
def tO' (K : PySem.W.Frag) (g : Gd) (E : XK) (m : List Nat) (f : FO) : TO := fun σ H Q => ∃ H0 F0 F ρ q x, Rel K g H0 F0 m σ H F ρ ∧ f ρ q x ∧
  (∀ o H' F', Fr g H F H' F' → q o → Q o H') ∧ XE K g H F x E
abbrev DO (X : Cx) (g : Gd) (E : XK) (m : List Nat) (e : Option Expr) (f : FO) : Prop := PO X e (tO' X.K g E m f)
theorem POimp {e : Option Expr} {t t' : TO} (h : PO X e t) (i : ∀ σ H Q, t' σ H Q → t σ H Q) : PO X e t' := ⟨fun pins s σ H Q I q => h.run pins s σ H Q I (i σ H Q q)⟩
def fNo : FO := fun _ q _ => q none
def fPart (f : FE) : FO := fun ρ q x => f ρ (fun d => match d with | .int i => q (some i) | _ => False) x
theorem do_none : DO X g E m none fNo := POimp po_none fun σ H Q ⟨H0, F0, F, ρ, q, x, R, hf, hq, hx⟩ => hq none H F R.fr.self hf
theorem do_some (h : DE X g E m e fe) : DO X g E m (some e) (fPart fe) := POimp (po_some h) fun σ H Q ⟨H0, F0, F, ρ, q, x, R, hf, hq, hx⟩ =>
  ⟨H0, F0, F, ρ, _, x, R, hf, fun v H' F' d r i hd => by
    split at hd
    · cases i
      exact ⟨_, rfl, hq _ H' F' r hd⟩
    · exact hd.elim, hx⟩
def cutD (xs : List D) (lo hi : Option Int) : List D := (xs.drop (HT.sIx xs.length 0 lo)).take (HT.sIx xs.length xs.length hi - HT.sIx xs.length 0 lo)
theorem IsAll.cut {K : PySem.W.Frag} {F : Hp} {vs : List V} {ds : List D} (h : IsAll K F vs ds) (lo hi : Option Int) : IsAll K F (cutV vs lo hi) (cutD ds lo hi) := by
  unfold cutV cutD
  rw [h.length]
  exact (h.drop _).take _
def fSl (f : FE) (l u : FO) : FE := fun ρ q x => f ρ (fun d => l ρ (fun lo => u ρ (fun hi => match d with
  | .tup xs => q (.tup (cutD xs lo hi))
  | .lst xs => q (.lst (cutD xs lo hi))
  | _ => False) x) x) x
def rSl2 (K : PySem.W.Frag) : V → Option Int → Option Int → Hp → VK → Prop := fun x lo hi H Q => rSlA K x lo hi H Q ∨ rSlL K x lo hi H Q
theorem cutD_all {xs : List D} {lo hi : Option Int} (h : HT.sIx xs.length 0 lo = 0 ∧ HT.sIx xs.length xs.length hi = xs.length) : cutD xs lo hi = xs := by
  unfold cutD
  rw [h.1, h.2, List.drop_zero, Nat.sub_zero, List.take_length]
theorem de_sl {lo hi : Option Expr} {fl fu : FO} {p2 : Pos} (h : DB X g E m e fe) (hl : DO X g E m lo fl) (hu : DO X g E m hi fu) : DE X g E m (.Subscript e (.Slice lo hi none p2) pos) (fSl fe fl fu) :=
  PEimp (pe_slice (sl_tupA.or sl_list) h hl hu) fun σ H Q ⟨H0, F0, F, ρ, q, x, R, hf, hq, hx⟩ => by
  refine ⟨H0, F0, F, ρ, _, x, R, hf, fun v H1 F1 d r1 i1 hb => ?_, hx⟩
  refine ⟨H0, F0, F1, ρ, _, x, R.step r1, hb, fun l H2 F2 r2 hs2 => ?_, hx.step r1⟩
  refine ⟨H0, F0, F2, ρ, _, x, (R.step r1).step r2, hs2, fun u H3 F3 r3 hs3 => ?_, (hx.step r1).step r2⟩
  have R3 := ((R.step r1).step r2).step r3
  have i3 := (i1.up r2).up r3
  split at hs3
  · rename_i ds
    obtain ⟨p, ys, rfl, h1, h2⟩ := i3.tup
    have hl := h2.length
    refine .inl ⟨_, _, rfl, R3.fr.sub.sqT h1, fun z => ?_, fun z p hp => ?_⟩
    · rw [hl] at z
      rw [cutD_all z] at hs3
      exact hq _ H3 F3 _ (r1.trans (r2.trans r3)) (.tup h1 h2) hs3
    · exact hq _ _ (upd F3 p _) _ (r1.trans (r2.trans (r3.trans (R3.fr.new hp)))) (.tup (.inl (.inl upd_same)) ((h2.cut l u).up (R3.fr.new (o := .tup (cutV ys l u)) hp).f0)) hs3
  · rename_i ds
    obtain ⟨p, ys, rfl, h1, h2⟩ := i3.lst' R3.fr.sub
    exact .inr ⟨_, _, rfl, h1, fun p hp => hq _ _ (upd F3 p _) _ (r1.trans (r2.trans (r3.trans (R3.fr.new hp)))) (.lst upd_same ((h2.cut l u).up (R3.fr.new (o := .lst (cutV ys l u)) hp).f0)) hs3⟩
  · exact hs3.elim
end
end DL

/-! DL19: repr of data, dicts among them. (Built behind DL3, ahead of DL4.) -/
namespace DL
open PySem L2
section
variable {X : Cx} {pins : List (Addr × Obj)} {σ : St} {H : Hp} {s : Shared}
/-- what the repr of u is shown to be, its objects all read -/
def Rk (P : Program) (w : World) (h : Heap) (u : Value) (d : PyData) : Prop := ∃ as bs, Reads h u d as ∧ ReadAtMost h d.depth bs ∧ ReprK P w bs h d.depth u d.shown
def Rks (P : Program) (w : World) (h : Heap) (us : List Value) (ds : List PyData) : Prop := ∃ as bs, ReadsAll h us ds as ∧ ReadAtMost h (PyData.depthAll ds) bs ∧ ReprAllK P w bs h (PyData.depthAll ds) us (PyData.shownAll ds)
theorem Rks.nil {P : Program} {w : World} {h : Heap} : Rks P w h [] [] := ⟨_, [], .nil, (fun _ h => nomatch h), .nil⟩
theorem Rks.cons {P : Program} {w : World} {h : Heap} {u : Value} {us : List Value} {d : PyData} {ds : List PyData} (h1 : Rk P w h u d) (h2 : Rks P w h us ds) : Rks P w h (u :: us) (d :: ds) := by
  obtain ⟨as, b1, r, hb1, k1⟩ := h1
  obtain ⟨as', b2, rs, hb2, k2⟩ := h2
  refine ⟨_, b1 ++ b2, .cons r rs, (hb1.mono (Nat.le_max_left _ _)).append (hb2.mono (Nat.le_max_right _ _)), ?_⟩
  exact .cons ((k1.more fun b hb => List.mem_append_left _ hb).level_le (Nat.le_max_left _ _)) (k2.more_le (fun b hb => List.mem_append_right _ hb) (Nat.le_max_right _ _))
/-- the parts of a list, a tuple: what its own repr asks -/
theorem rk_list {P : Program} {w : World} {h : Heap} {a : Addr} {its : Array Value} {ds : List PyData} (pl : PlainL h a its) (r : Rks P w h its.toList ds) : Rk P w h (.ref a) (.list ds) := by
  obtain ⟨o, n, h1, h2, _, h3⟩ := pl
  obtain ⟨as, bs, rd, hb, hk⟩ := r
  have r : Reads h (.ref a) (.list ds) _ := .list h1 h2 h3 rd
  have hna : a ∉ bs := not_mem_of_deeper r (by simp only [PyData.depth]; omega) hb
  refine ⟨_, a :: bs, r, ReadAtMost.cons r (by simp only [PyData.depth]; omega) hb, ?_⟩
  simp only [PyData.depth, PyData.shown]
  obtain ⟨l⟩ := its
  cases l with
  | nil =>
    have rd' : ReadsAll h [] ds _ := rd
    cases rd'
    simp only [PyData.shownAll, listText_nil]
    exact ReprK.listEmpty h1 h2 h3
  | cons x l => exact ReprK.list h1 h2 h3 hna (by simpa using hk.length_eq) (fun i y e => hk.item i y (by simpa using e))
theorem rk_tup {P : Program} {w : World} {h : Heap} {a : Addr} {its : Array Value} {ds : List PyData} (pl : Heap.IsTuple h a its) (r : Rks P w h its.toList ds) : Rk P w h (.ref a) (.tuple ds) := by
  obtain ⟨o, h1, h2, n, h3⟩ := pl
  obtain ⟨as, bs, rd, hb, hk⟩ := r
  have r : Reads h (.ref a) (.tuple ds) _ := .tuple h1 h2 h3 rd
  have hna : a ∉ bs := not_mem_of_deeper r (by simp only [PyData.depth]; omega) hb
  refine ⟨_, a :: bs, r, ReadAtMost.cons r (by simp only [PyData.depth]; omega) hb, ?_⟩
  simp only [PyData.depth, PyData.shown]
  exact ReprK.tuple h1 h2 h3 hna hk
theorem zip_fst {α β : Type} : ∀ (l : List α) (r : List β), l.length = r.length → (l.zip r).map (·.1) = l
  | [], _, _ => by rw [List.zip_nil_left]; rfl
  | a :: l, [], h => by cases h
  | a :: l, b :: r, h => by rw [List.zip_cons_cons, List.map_cons, zip_fst l r (Nat.succ.inj h)]
theorem zip_snd {α β : Type} : ∀ (l : List α) (r : List β), l.length = r.length → (l.zip r).map (·.2) = r
  | [], [], _ => rfl
  | [], b :: r, h => by cases h
  | a :: l, [], h => by cases h
  | a :: l, b :: r, h => by rw [List.zip_cons_cons, List.map_cons, zip_snd l r (Nat.succ.inj h)]
theorem rk_dict {P : Program} {w : World} {h : Heap} {a : Addr} {o : Obj} {es : Array DictEntry} {n : Nat} {ks ds : List PyData} (h1 : h.get? a = some o) (h2 : o.cls = .type "dict") (h3 : o.data = .dict es n) (hsys : (a == sysModules) = false) (hl : ks.length = ds.length)
    (rk : Rks P w h (es.toList.map (·.key)) ks) (rv : Rks P w h (es.toList.map (·.val)) ds) : Rk P w h (.ref a) (.dict (ks.zip ds)) := by
  have e1 := zip_fst ks ds hl
  have e2 := zip_snd ks ds hl
  generalize ks.zip ds = kvs at e1 e2
  subst e1
  subst e2
  obtain ⟨as, b1, rd1, hb1, k1⟩ := rk
  obtain ⟨as', b2, rd2, hb2, k2⟩ := rv
  have r : Reads h (.ref a) (.dict kvs) _ := .dict h1 h2 h3 rd1 rd2
  have hb : ReadAtMost h (PyData.depthKv kvs) (b1 ++ b2) := (hb1.mono (PyData.depthAll_keys_le kvs)).append (hb2.mono (PyData.depthAll_vals_le kvs))
  have hna : a ∉ b1 ++ b2 := not_mem_of_deeper r (by simp only [PyData.depth]; omega) hb
  refine ⟨_, a :: (b1 ++ b2), r, ReadAtMost.cons r (by simp only [PyData.depth]; omega) hb, ?_⟩
  simp only [PyData.depth, PyData.shown, PyData.shownKv_eq]
  exact ReprK.dict h1 h2 h3 hsys hna (ReprEntriesK.of_two es.toList _ _
    (k1.more_le (fun b hb => List.mem_append_left _ hb) (PyData.depthAll_keys_le kvs)) (k2.more_le (fun b hb => List.mem_append_right _ hb) (PyData.depthAll_vals_le kvs)))
theorem rk_int {P : Program} {w : World} {h : Heap} {i : Int} {t : Tok} (hs : i.natAbs.log2 < 1920) : Rk P w h (.int i t) (.int i) := ⟨_, [], .int i t, (fun _ h => nomatch h), .of_is (ReprIs.int t hs) _ _ _⟩
theorem rk_str {P : Program} {w : World} {h : Heap} {x : Str} {t : Tok} (hz : (PyData.str x).shown.length ≤ sizeLine) : Rk P w h (.str x t) (.str x) := ⟨_, [], .str x t, (fun _ h => nomatch h), .of_is (ReprIs.str x t hz) _ _ _⟩
theorem shown_mem : ∀ {l : List PyData} {d : PyData}, d ∈ l → d.shown ∈ PyData.shownAll l
  | [], _, h => nomatch h
  | x :: l, d, h => by
    show d.shown ∈ x.shown :: PyData.shownAll l
    rcases List.mem_cons.mp h with e | h
    · rw [e]; exact List.mem_cons_self ..
    · exact List.mem_cons_of_mem _ (shown_mem h)
/-- the keys of a dict -/
theorem rk_keys {P : Program} {w : World} {h : Heap} : ∀ {es : List DictEntry} {vs : List (Key × Value)} {ks : List Key}, Pairs (mixKind P w) es vs → vs.map (·.1) = ks → ks.all keyOk = true → (∀ k ∈ ks, (keyPy k).shown.length ≤ sizeLine) → Rks P w h (es.map (·.key)) (ks.map keyPy)
  | [], [], [], _, _, _, _ => Rks.nil
  | [], [], k :: ks, _, e, _, _ => by cases e
  | e :: es, v :: vs, [], _, z, _, _ => by cases z
  | [], v :: vs, _, p, _, _, _ => by cases p
  | e :: es, [], _, p, _, _, _ => by cases p
  | e :: es, v :: vs, k :: ks, p, z, o, hz => by
    cases p with
    | cons h1 h2 h3 =>
      rw [List.map_cons] at z
      injection z with z1 z2
      rw [List.all_cons, Bool.and_eq_true] at o
      refine Rks.cons ?_ (rk_keys h3 z2 o.2 fun k hk => hz k (List.mem_cons_of_mem _ hk))
      rw [z1] at h1
      rcases keyIs_shape h1 with ⟨i, t, e1, e2⟩ | ⟨x, t, e1, e2⟩
      · subst e1
        show Rk P w h e.key _
        rw [e2]
        exact rk_int (of_decide_eq_true o.1)
      · subst e1
        show Rk P w h e.key _
        rw [e2]
        exact rk_str (hz _ (List.mem_cons_self ..))
theorem pairs_vals {P : Program} {w : World} : ∀ {es : List DictEntry} {vs : List (Key × Value)}, Pairs (mixKind P w) es vs → es.map (·.val) = vs.map (·.2)
  | [], [], _ => rfl
  | _ :: _, _ :: _, h => by
    cases h with
    | cons h1 h2 h3 => rw [List.map_cons, List.map_cons, h2, pairs_vals h3]
  | [], v :: vs, p => by cases p
  | e :: es, [], p => by cases p
theorem kv_split : ∀ {ks : List Key} {xs : List V} {vs : List (Key × Value)}, ks.length = xs.length → KV (ks.zip xs) vs → vs.map (·.1) = ks ∧ Vals xs (vs.map (·.2))
  | [], [], vs, _, h => by
    rw [List.zip_nil_left] at h
    cases h
    exact ⟨rfl, .nil⟩
  | [], x :: xs, _, h, _ => by cases h
  | k :: ks, [], _, h, _ => by cases h
  | k :: ks, x :: xs, vs, h, r => by
    rw [List.zip_cons_cons] at r
    cases r with
    | cons h1 h2 =>
      obtain ⟨e1, e2⟩ := kv_split (Nat.succ.inj h) h2
      rw [List.map_cons, List.map_cons, e1]
      exact ⟨by rw [← h1.1], .cons h1.2 e2⟩
mutual
theorem Is.rk (I : Inv X pins σ H s) : ∀ (d : D) (v : V) (u : Value), d.okR = true → d.shows = true → Is X.K H v d → RelV v u → d.py.shown.length ≤ sizeLine → Rk X.prog X.w s.heap u d.py
  | .non, _, _, _, _, h, r, _ => by
    cases h
    cases r
    exact ⟨_, [], Reads.none, (fun _ h => nomatch h), .of_is ReprIs.none _ _ _⟩
  | .bl b, _, _, _, _, h, r, _ => by
    cases h
    cases r
    exact ⟨_, [], Reads.bool b, (fun _ h => nomatch h), .of_is (ReprIs.bool b) _ _ _⟩
  | .int i, _, _, _, hs, h, r, _ => by
    cases h
    obtain ⟨t, rfl⟩ := r
    exact rk_int (of_decide_eq_true hs)
  | .str x, _, _, _, _, h, r, hz => by
    cases h
    obtain ⟨t, rfl⟩ := r
    exact rk_str hz
  | .ref _, _, _, o, _, _, _, _ => by cases o
  | .tup ds, _, _, o, hs, h, r, hz => by
    cases h with
    | tup h1 h2 =>
      cases r
      obtain ⟨its, rv, pl, _⟩ := I.tuple h1
      exact rk_tup pl (IsAll.rk I ds _ _ o hs h2 rv fun t ht => Nat.le_trans (tupleText_mem_le ht) hz)
  | .lst ds, _, _, o, hs, h, r, hz => by
    cases h with
    | lst h1 h2 =>
      cases r
      obtain ⟨its, rv, pl, _⟩ := I.list (.inl (.inl h1))
      exact rk_list pl (IsAll.rk I ds _ _ o hs h2 rv fun t ht => Nat.le_trans (listText_mem_le ht) hz)
  | .dic ks ds, _, _, o, hs, h, r, hz => by
    cases h with
    | dic h1 h0 h2 =>
      cases r
      have o' : (ks.all keyOk && (decide (ks.length = ds.length) && D.oksR ds)) = true := o
      rw [Bool.and_eq_true, Bool.and_eq_true] at o'
      obtain ⟨_, hsys, vs, rel, ob, es, n, g1, g2, g3, _, g4, _⟩ := dk_of I.hok h1
      obtain ⟨e1, e2⟩ := kv_split h0 rel
      have hl : (ks.map keyPy).length = (D.pys ds).length := by rw [List.length_map, D.pys_length]; exact of_decide_eq_true o'.2.1
      have z1 := zip_fst _ _ hl
      have z2 := zip_snd _ _ hl
      refine rk_dict g1 g2.1 g3 hsys hl (rk_keys g4 e1 o'.1 fun k hk => ?_) ?_
      · obtain ⟨p, hp, hle⟩ := PyData.shownKv_key_le ((ks.map keyPy).zip (D.pys ds)) (keyPy k).shown (by
          rw [z1]
          exact shown_mem (List.mem_map.mpr ⟨k, hk, rfl⟩))
        exact Nat.le_trans hle (Nat.le_trans (dictText_mem_le hp) hz)
      · rw [pairs_vals g4]
        refine IsAll.rk I ds _ _ o'.2.2 hs h2 e2 fun t ht => ?_
        obtain ⟨p, hp, hle⟩ := PyData.shownKv_val_le ((ks.map keyPy).zip (D.pys ds)) t (by rw [z2]; exact ht)
        exact Nat.le_trans hle (Nat.le_trans (dictText_mem_le hp) hz)
theorem IsAll.rk (I : Inv X pins σ H s) : ∀ (ds : List D) (vs : List V) (us : List Value), D.oksR ds = true → D.showss ds = true → IsAll X.K H vs ds → Vals vs us → (∀ t ∈ PyData.shownAll (D.pys ds), t.length ≤ sizeLine) → Rks X.prog X.w s.heap us (D.pys ds)
  | [], _, _, _, _, h, r, _ => by
    cases h
    cases r
    exact Rks.nil
  | d :: ds, _, _, o, hs, h, r, hz => by
    have o' : (D.okR d && D.oksR ds) = true := o
    have h' : (D.shows d && D.showss ds) = true := hs
    rw [Bool.and_eq_true] at o' h'
    cases h with
    | cons h1 h2 =>
      cases r with
      | cons r1 r2 => exact Rks.cons (Is.rk I d _ _ o'.1 h'.1 h1 r1 (hz _ (List.mem_cons_self ..))) (IsAll.rk I ds _ _ o'.2 h'.2 h2 r2 fun t ht => hz t (List.mem_cons_of_mem _ ht))
end
theorem repr_tup {A : Around} {E : Value → Shared → Prop} {Q : Value → Shared → Prop} {P : Program} {w : World} {a : Addr} {its : Array Value} {ds : List PyData} (pl : Heap.IsTuple s.heap a its) (r : Rks P w s.heap its.toList ds) (hg : A.guards = some []) (hu : A.units + 64 < cLine) (hd : (PyData.tuple ds).depth ≤ 60)
    (hz : (PyData.tuple ds).shown.length ≤ sizeLine) (hQ : ∀ h' u tk, (∀ b o, s.heap.get? b = some o → h'.get? b = some o) → Q (.str (PyData.tuple ds).shown u) { s with heap := h', toks := tk }) : wpAny (model P w) A (call (.builtin "repr") [.ref a]) Q E s := by
  obtain ⟨o, h1, h2, n, h3⟩ := pl
  obtain ⟨as, bs, rd, hb, hk⟩ := r
  have r : Reads s.heap (.ref a) (.tuple ds) _ := .tuple h1 h2 h3 rd
  have hna : a ∉ bs := not_mem_of_deeper r (by simp only [PyData.depth]; omega) hb
  simp only [PyData.depth] at hd
  exact call_repr_slot (by omega) ⟨o, h1, h2⟩ F.slot_tuple_repr (call_tuple_reprK h1 h2 h3 hna hk hg (fun b _ => Clear.nil b) (by show A.units + 1 + _ < cLine; omega) (fun _ _ e => e) (fun h' u tk kp => ⟨_, _, rfl, hQ h' u tk kp⟩) hz)
theorem repr_lst {A : Around} {E : Value → Shared → Prop} {Q : Value → Shared → Prop} {P : Program} {w : World} {a : Addr} {its : Array Value} {ds : List PyData} (pl : PlainL s.heap a its) (r : Rks P w s.heap its.toList ds) (hg : A.guards = some []) (hu : A.units + 64 < cLine) (hd : (PyData.list ds).depth ≤ 60)
    (hz : (PyData.list ds).shown.length ≤ sizeLine) (hQ : ∀ h' u tk, (∀ b o, s.heap.get? b = some o → h'.get? b = some o) → Q (.str (PyData.list ds).shown u) { s with heap := h', toks := tk }) : wpAny (model P w) A (call (.builtin "repr") [.ref a]) Q E s := by
  obtain ⟨o, n, h1, h2, _, h3⟩ := pl
  obtain ⟨as, bs, rd, hb, hk⟩ := r
  have r : Reads s.heap (.ref a) (.list ds) _ := .list h1 h2 h3 rd
  have hna : a ∉ bs := not_mem_of_deeper r (by simp only [PyData.depth]; omega) hb
  simp only [PyData.depth] at hd
  refine call_repr_slot (by omega) ⟨o, h1, h2⟩ F.slot_list_repr.toG ?_
  obtain ⟨l⟩ := its
  cases l with
  | nil =>
    have rd' : ReadsAll s.heap [] ds _ := rd
    cases rd'
    exact call_list_repr_empty ⟨o, h1, h2⟩ h1 h3 ⟨_, _, rfl, hQ s.heap _ _ fun _ _ e => e⟩
  | cons x l => exact call_list_reprK h1 h2 h3 hna (by simpa using hk.length_eq) (fun i y e => hk.item i y (by simpa using e)) hg (fun b _ => Clear.nil b) (by show A.units + 1 + _ < cLine; omega) (fun _ _ e => e) (fun h' u tk kp => ⟨_, _, rfl, hQ h' u tk kp⟩) hz
end
end DL

/-! DL4: built-in calls, what is walked, comprehensions, statements, loops. -/
namespace DL
open PySem L2

/-! ### built-in calls -/
def absI (i : Int) : Int := if i < 0 then -i else i
section
variable {X : Cx} {g : Gd} {E : XK} {m : List Nat} {a b : Expr} {fa fb : FE} {pos p : Pos}
def sLen : D → (D → Prop) → XD → Prop := fun a q _ => match a with
  | .tup xs => q (.int xs.length)
  | .lst xs => q (.int xs.length)
  | .str s => s.length ≤ LN ∧ q (.int s.length)
  | _ => False
theorem de_len (hg : Gl X "len") (hm : X.mg "len" = none) (ha : DB X g E m a fa) (h1 : starEach [a] X.env = (false, eval a X.env) :: starEach [] X.env := by rfl) : DE X g E m (.Call (.Name "len" p) [a] [] pos) (f1 sLen fa) :=
  de_1 (pe_callB call_len hg hm PySem.boot_len (pa_cons ha pa_nil h1) (he := h1)) fun g E H F v a q x Q r ia hs hq hx => by
  unfold sLen at hs
  split at hs
  · obtain ⟨p, ys, rfl, h1, h2⟩ := ia.tup
    rw [← h2.length] at hs
    exact ⟨_, _, rfl, .inr ⟨_, r.sub.sqT h1, rfl⟩, hq _ H F _ r (.int _) hs⟩
  · obtain ⟨p, ys, rfl, h1, h2⟩ := ia.lst' r.sub
    rw [← h2.length] at hs
    exact ⟨_, _, rfl, .inl ⟨_, h1, rfl⟩, hq _ H F _ r (.int _) hs⟩
  · rw [ia.str]
    exact ⟨_, _, rfl, ⟨LN_line hs.1, rfl⟩, hq _ H F _ r (.int _) hs.2⟩
  · exact hs.elim
def sAbs : D → (D → Prop) → XD → Prop := fun a q _ => match a with | .int i => q (.int (absI i)) | _ => False
theorem de_abs (hg : Gl X "abs") (hm : X.mg "abs" = none) (ha : DB X g E m a fa) (hb : bootBuiltins "abs" = some (.builtin "abs") := by decide +kernel) (h1 : starEach [a] X.env = (false, eval a X.env) :: starEach [] X.env := by rfl) : DE X g E m (.Call (.Name "abs" p) [a] [] pos) (f1 sAbs fa) :=
  de_1 (pe_callB call_abs hg hm hb (pa_cons ha pa_nil h1) (he := h1)) fun g E H F v a q x Q r ia hs hq hx => by
  unfold sAbs at hs
  split at hs
  · rw [ia.int]
    exact ⟨_, rfl, hq _ H F _ r (.int _) hs⟩
  · exact hs.elim
def sInt : D → (D → Prop) → XD → Prop := fun a q _ => match a with | .int i => q (.int i) | .bl b => q (.int (if b then 1 else 0)) | _ => False
theorem de_toInt (hg : Gl X "int") (hm : X.mg "int" = none) (ha : DB X g E m a fa) (hb : bootBuiltins "int" = some (.type "int") := by decide +kernel) (h1 : starEach [a] X.env = (false, eval a X.env) :: starEach [] X.env := by rfl) : DE X g E m (.Call (.Name "int" p) [a] [] pos) (f1 sInt fa) :=
  de_1 (pe_callTy call_int1 hg hm hb (pa_cons ha pa_nil h1) (he := h1)) fun g E H F v a q x Q r ia hs hq hx => by
  unfold sInt at hs
  split at hs
  · rw [ia.int]
    exact .inl ⟨_, rfl, hq _ H F _ r (.int _) hs⟩
  · rw [ia.bl]
    exact .inr ⟨_, rfl, hq _ H F _ r (.int _) hs⟩
  · exact hs.elim
theorem de_max2 (hc : X.calm = true) (hg : Gl X "max") (hm : X.mg "max" = none) (ha : DB X g E m a fa) (hb : DB X g E m b fb) (hbt : bootBuiltins "max" = some (.builtin "max") := by decide +kernel) (h1 : starEach [a, b] X.env = (false, eval a X.env) :: starEach [b] X.env := by rfl) (h2 : starEach [b] X.env = (false, eval b X.env) :: starEach [] X.env := by rfl) : DE X g E m (.Call (.Name "max" p) [a, b] [] pos) (f2 (sI0 fun i j => .int (if j > i then j else i)) fa fb) :=
  de_2 (r := fun v w H Q => ∃ i j, [v, w] = [V.int i, .int j] ∧ Q (.int (if j > i then j else i)) H) (pe_callB (call_max2 hc) hg hm hbt (pa_cons ha (pa_cons hb pa_nil h2) h1) (he := h1) (hpl := by rw [h2]; rfl)) fun g E H F v w a b q x Q r ia ib hs hq hx => by
  unfold sI0 at hs
  split at hs
  · rw [ia.int, ib.int]
    exact ⟨_, _, rfl, hq _ H F _ r (.int _) hs⟩
  · exact hs.elim
theorem de_min2 (hc : X.calm = true) (hg : Gl X "min") (hm : X.mg "min" = none) (ha : DB X g E m a fa) (hb : DB X g E m b fb) (hbt : bootBuiltins "min" = some (.builtin "min") := by decide +kernel) (h1 : starEach [a, b] X.env = (false, eval a X.env) :: starEach [b] X.env := by rfl) (h2 : starEach [b] X.env = (false, eval b X.env) :: starEach [] X.env := by rfl) : DE X g E m (.Call (.Name "min" p) [a, b] [] pos) (f2 (sI0 fun i j => .int (if j < i then j else i)) fa fb) :=
  de_2 (r := fun v w H Q => ∃ i j, [v, w] = [V.int i, .int j] ∧ Q (.int (if j < i then j else i)) H) (pe_callB (call_min2 hc) hg hm hbt (pa_cons ha (pa_cons hb pa_nil h2) h1) (he := h1) (hpl := by rw [h2]; rfl)) fun g E H F v w a b q x Q r ia ib hs hq hx => by
  unfold sI0 at hs
  split at hs
  · rw [ia.int, ib.int]
    exact ⟨_, _, rfl, hq _ H F _ r (.int _) hs⟩
  · exact hs.elim
def gcdI (i j : Int) : Int := ((Nat.gcd i.natAbs j.natAbs : Nat) : Int)
theorem de_gcd {nm : Str} (hg : Gl X nm) (hm : X.mg nm = some (.builtin "math.gcd")) (ha : DB X g E m a fa) (hb : DB X g E m b fb) (hdb : (nm == ("__debug__" : Str)) = false := by decide) (h1 : starEach [a, b] X.env = (false, eval a X.env) :: starEach [b] X.env := by rfl) (h2 : starEach [b] X.env = (false, eval b X.env) :: starEach [] X.env := by rfl) : DE X g E m (.Call (.Name nm p) [a, b] [] pos) (f2 (sI0 fun i j => .int (gcdI i j)) fa fb) :=
  de_2 (r := fun v w H Q => rGcd [v, w] H Q) (pe_callBfun cr_gcd hg hm (pa_cons ha (pa_cons hb pa_nil h2) h1) hdb h1 (by rw [h2]; rfl)) fun g E H F v w a b q x Q r ia ib hs hq hx => by
  unfold sI0 at hs
  split at hs
  · rw [ia.int, ib.int]
    exact ⟨_, _, rfl, hq _ H F _ r (.int _) hs⟩
  · exact hs.elim
/-- list(x), tuple(x) -/
def sList : D → (D → Prop) → XD → Prop := fun a q _ => match a with | .tup xs => q (.lst xs) | .lst xs => q (.lst xs) | _ => False
def sTuple : D → (D → Prop) → XD → Prop := fun a q _ => match a with | .tup xs => q (.tup xs) | .lst xs => q (.tup xs) | _ => False
theorem df_1 {e : Expr} {r : V → Hp → VK → Prop} {sem : D → (D → Prop) → XD → Prop} (h : PE X e (tUn r (tBo X.K g E m fa)))
    (hs : ∀ (g : Gd) (E : XK) (H F : Hp) (v : V) (a : D) (q : D → Prop) (x : XD) (Q : VK), Fr g H F H F → IsB X.K g F H v a → sem a q x → (∀ p H' F' vs xs, Fr g H F H' F' → H p = none → H' p = some (.lst vs) → F' p = none → IsAll X.K F' vs xs → q (.lst xs) → Q (.ref p) H') → XE X.K g H F x E → r v H Q) :
    DF X g E m e (f1 sem fa) := PEimp h fun σ H Q ⟨H0, F0, F, ρ, q, x, R, hf, hq, hx⟩ =>
  ⟨H0, F0, F, ρ, _, x, R, hf, fun v H1 F1 d r1 i1 hb => hs g E H1 F1 v d q x Q (R.step r1).fr.self i1 hb (fun p H' F' vs xs r3 n h1 h2 ha hd => hq p H' F' vs xs (r1.trans r3) (r1.back n) h1 h2 ha hd) (hx.step r1), hx⟩
theorem df_list (hg : Gl X "list") (hm : X.mg "list" = none) (ha : DB X g E m a fa) (hb : bootBuiltins "list" = some (.type "list") := by decide +kernel) (h1 : starEach [a] X.env = (false, eval a X.env) :: starEach [] X.env := by rfl) : DF X g E m (.Call (.Name "list" p) [a] [] pos) (f1 sList fa) :=
  df_1 (r := fun v H Q => ∃ p ys, [v] = [V.ref p] ∧ (SqL X.K H p ys ∨ SqT X.K H p ys) ∧ ∀ l, H l = none → Q (.ref l) (upd H l (.lst ys))) (pe_callTy call_list_of hg hm hb (pa_cons ha pa_nil h1) (he := h1)) fun g E H F v a q x Q r ia hs hq hx => by
  unfold sList at hs
  split at hs
  · obtain ⟨p, ys, rfl, h1, h2⟩ := ia.tup
    exact ⟨_, _, rfl, .inr (r.sub.sqT h1), fun l hl => hq l _ F _ _ (r.newO hl) hl upd_same (r.freeF hl) h2 hs⟩
  · obtain ⟨p, ys, rfl, h1, h2⟩ := ia.lst' r.sub
    exact ⟨_, _, rfl, .inl h1, fun l hl => hq l _ F _ _ (r.newO hl) hl upd_same (r.freeF hl) h2 hs⟩
  · exact hs.elim
theorem de_tuple (hg : Gl X "tuple") (hm : X.mg "tuple" = none) (ha : DB X g E m a fa) (hb : bootBuiltins "tuple" = some (.type "tuple") := by decide +kernel) (h1 : starEach [a] X.env = (false, eval a X.env) :: starEach [] X.env := by rfl) : DE X g E m (.Call (.Name "tuple" p) [a] [] pos) (f1 sTuple fa) :=
  de_1 (r := fun v H Q => ∃ p ys, [v] = [V.ref p] ∧ ((SqL X.K H p ys ∧ ∀ l, H l = none → Q (.ref l) (upd H l (.tup ys))) ∨ (SqT X.K H p ys ∧ Q (.ref p) H))) (pe_callTy call_tuple_of hg hm hb (pa_cons ha pa_nil h1) (he := h1)) fun g E H F v a q x Q r ia hs hq hx => by
  unfold sTuple at hs
  split at hs
  · obtain ⟨p, ys, rfl, h1, h2⟩ := ia.tup
    exact ⟨_, _, rfl, .inr ⟨r.sub.sqT h1, hq _ H F _ r (.tup h1 h2) hs⟩⟩
  · obtain ⟨p, ys, rfl, h1, h2⟩ := ia.lst' r.sub
    exact ⟨_, _, rfl, .inl ⟨h1, fun l hl => hq _ _ (upd F l _) _ (r.new hl) (.tup (.inl (.inl upd_same)) (h2.up (r.new (o := .tup ys) hl).f0)) hs⟩⟩
  · exact hs.elim
/-- isinstance(x, T), T a built-in type by its name -/
def D.ty : D → String
  | .non => "NoneType"
  | .bl _ => "bool"
  | .int _ => "int"
  | .str _ => "str"
  | .tup _ => "tuple"
  | .lst _ => "list"
  | .ref _ => ""
  | .dic _ _ => "dict"
def isTy (n t : String) : Bool := n == t || (n == "int" && t == "bool")
def sIsi (n : String) : D → (D → Prop) → XD → Prop := fun a q _ => match a with | .ref _ => False | a => q (.bl (isTy n a.ty))
theorem IsB.tyx {K : PySem.W.Frag} {g : Gd} {F H : Hp} {v : V} {d : D} (s : Ex F H) (h : IsB K g F H v d) (hd : ∀ a, d ≠ .ref a) : TyX K H v (.type d.ty) := by
  rcases h with h | ⟨a, vs, xs, rfl, rfl, h1, _, h3⟩
  · cases h with
    | non => exact .base .non
    | bl b => exact .base (.bl b)
    | int i => exact .base (.int i)
    | str x => exact .base (.str x)
    | ref a => exact absurd rfl (hd a)
    | tup h1 h2 =>
      rcases h1 with (h1 | ⟨o, h1⟩) | ⟨o, its, n, h1, h2, _⟩
      · exact .base (.tup (s _ _ h1))
      · exact .fTuple (s _ _ h1)
      · exact .kTuple h1 h2
    | lst h1 h2 => exact .base (.lst (s _ _ h1))
    | dic h1 h0 h2 => exact .base (.dK (s _ _ h1))
  · exact .base (.lst h1)
theorem de_isi {n : Str} {T : String} {p2 : Pos} (hg : Gl X "isinstance") (hm : X.mg "isinstance" = none) (hg2 : Gl X n) (hm2 : X.mg n = none) (hb2 : bootBuiltins n = some (.type T)) (ha : DB X g E m a fa)
    (hk : ∀ t ∈ ["NoneType", "bool", "int", "str", "tuple", "list", "dict"], kitB t T = some (isTy T t)) (hb : bootBuiltins "isinstance" = some (.builtin "isinstance") := by decide +kernel) (hn2 : n ≠ "__name__" := by decide) (hd2 : (n == ("__debug__" : Str)) = false := by decide) (h1 : starEach [a, .Name n p2] X.env = (false, eval a X.env) :: starEach [.Name n p2] X.env := by rfl) :
    DE X g E m (.Call (.Name "isinstance" p) [a, .Name n p2] [] pos) (f1 (sIsi T) fa) :=
  de_1 (r := fun v H Q => rIsi X.K [v, .ty T] H Q) (pe_callB call_isi hg hm hb (pa_cons ha (pa_cons (pe_bltn (v := .ty T) hg2 hm2 hb2 rfl hn2 hd2) pa_nil) h1) (he := h1)) fun g E H F v a q x Q r ia hs hq hx => by
  have key : (∀ b, a ≠ .ref b) → q (.bl (isTy T a.ty)) → rIsi X.K [v, .ty T] H Q := fun nr hs => by
    have hm : a.ty ∈ ["NoneType", "bool", "int", "str", "tuple", "list", "dict"] := by
      cases a with
      | ref b => exact absurd rfl (nr b)
      | _ => simp [D.ty]
    exact ⟨_, _, _, _, _, rfl, .ty T, ia.tyx r.sub nr, kit_ty (hk _ hm), hq _ H F _ r (.bl _) hs⟩
  unfold sIsi at hs
  split at hs
  · exact hs.elim
  · rename_i nr
    exact key (fun b z => nr b z) hs
/-- repr(x) -/
def sRepr : D → (D → Prop) → XD → Prop := fun a q _ => a.okR = true ∧ a.shows = true ∧ a.dep ≤ 60 ∧ a.cost ≤ LN ∧ q (.str a.py.shown)
/-- what repr asks of a list or tuple -/
def rRepr (K : PySem.W.Frag) : List V → Hp → VK → Prop := fun xs H Q => ∃ (p : Addr) (vs : List V) (ds : List D), xs = [.ref p] ∧ IsAll K H vs ds ∧ D.oksR ds = true ∧ D.showss ds = true ∧ D.deps ds + 1 ≤ 60 ∧
  ((SqT K H p vs ∧ (PyData.tuple (D.pys ds)).shown.length ≤ sizeLine ∧ Q (.str (PyData.tuple (D.pys ds)).shown) H) ∨ (SqL K H p vs ∧ (PyData.list (D.pys ds)).shown.length ≤ sizeLine ∧ Q (.str (PyData.list (D.pys ds)).shown) H))
theorem call_reprD (hG : X.A.guards = some []) (hu : X.A.units + 64 < cLine) : CallR X (.builtin "repr") (rRepr X.K) := by
  intro pins s σ H xs us Q I r h
  obtain ⟨p, vs, ds, rfl, ia, h1, h2, h3, h⟩ := h
  obtain ⟨u, rfl, ru⟩ := vals1 r
  cases ru
  rcases h with ⟨hs, hz, q⟩ | ⟨hs, hz, q⟩
  · obtain ⟨its, rv, pl, _⟩ := I.tuple hs
    exact repr_tup pl (IsAll.rk I ds _ _ h1 h2 ia rv fun t ht => Nat.le_trans (tupleText_mem_le ht) hz) hG hu (Nat.le_trans (Nat.add_le_add_right (D.pys_dep ds) 1) h3) hz fun h' u tk kp => ⟨.str _, H, I.kept (t' := tk) kp, ⟨u, rfl⟩, q⟩
  · obtain ⟨its, rv, pl, _⟩ := I.list hs
    exact repr_lst pl (IsAll.rk I ds _ _ h1 h2 ia rv fun t ht => Nat.le_trans (listText_mem_le ht) hz) hG hu (Nat.le_trans (Nat.add_le_add_right (D.pys_dep ds) 1) h3) hz fun h' u tk kp => ⟨.str _, H, I.kept (t' := tk) kp, ⟨u, rfl⟩, q⟩
theorem de_repr (hG : X.A.guards = some []) (hu : X.A.units + 64 < cLine) (hg : Gl X "repr") (hm : X.mg "repr" = none) (ha : DB X g E m a fa) (hb : bootBuiltins "repr" = some (.builtin "repr") := by decide +kernel) (h1 : starEach [a] X.env = (false, eval a X.env) :: starEach [] X.env := by rfl) : DE X g E m (.Call (.Name "repr" p) [a] [] pos) (f1 (fun a q x => (match a with | .tup _ => True | .lst _ => True | _ => False) ∧ sRepr a q x) fa) :=
  de_1 (r := fun v H Q => rRepr X.K [v] H Q) (pe_callB (call_reprD hG hu) hg hm hb (pa_cons ha pa_nil h1) (he := h1)) fun g E H F v a q x Q r ia hs hq hx => by
  obtain ⟨hs0, h1, h2, h3, h4, hs⟩ := hs
  have hz := LN_line (Nat.le_trans (D.shown_len a h1 h2) h4)
  split at hs0
  · obtain ⟨p, vs, e, i1, i2⟩ := ia.tup
    exact ⟨p, vs, _, by rw [e], i2.up r.sub, h1, h2, h3, .inl ⟨r.sub.sqT i1, hz, hq _ H F _ r (.str _) hs⟩⟩
  · obtain ⟨p, vs, e, i1, i2⟩ := ia.lst r.sub
    exact ⟨p, vs, _, by rw [e], i2.up r.sub, h1, h2, h3, .inr ⟨.inl (.inl i1), hz, hq _ H F _ r (.str _) hs⟩⟩
  · exact hs0.elim
end

/-! ### what is walked -/
/-- J yields ds, as long as F stands -/
structure Yl (K : PySem.W.Frag) (J : It) (F : Hp) (ds : List D) : Prop where
  go : ∀ i H, Ex F H → i < ds.length → J.go i H
  yl : ∀ (g : Gd) (i : Nat) (d : D) (H F1 : Hp) (x : V) (H' : Hp), Fr g H F1 H F1 → Ex F F1 → ds[i]? = some d → J.yld i H x H' → ∃ F2, Fr g H F1 H' F2 ∧ Is K F2 x d
  stop : ∀ i H, Ex F H → ds.length ≤ i → J.stop i H
abbrev FI := Ro → (List D → Prop) → XD → Prop
def tI (K : PySem.W.Frag) (g : Gd) (E : XK) (m : List Nat) (f : FI) : TI := fun σ H R => ∃ H0 F0 F ρ q x, Rel K g H0 F0 m σ H F ρ ∧ f ρ q x ∧
  (∀ J H' F' ds, Fr g H F H' F' → Yl K J F' ds → q ds → R J H') ∧ XE K g H F x E
abbrev DI (X : Cx) (g : Gd) (E : XK) (m : List Nat) (tg iter : Expr) (f : FI) : Prop := PI X tg iter (tI X.K g E m f)
theorem PIimp {X : Cx} {tg e : Expr} {t t' : TI} (h : PI X tg e t) (i : ∀ σ H Q, t' σ H Q → t σ H Q) : PI X tg e t' := ⟨fun pins s σ H Q I q => h.run pins s σ H Q I (i σ H Q q)⟩
section
variable {X : Cx} {g : Gd} {E : XK} {m : List Nat} {a b tg : Expr} {fa fb : FE} {pos p : Pos}
theorem yl_list {K : PySem.W.Frag} {F : Hp} {a : Addr} {vs : List V} {ds : List D} (h : F a = some (.lst vs)) (ha : IsAll K F vs ds) : Yl K (Itl K a) F ds where
  go := fun i H e hi => by
    obtain ⟨v, e1, _⟩ := ha.get (List.getElem?_eq_getElem hi)
    exact ⟨vs, v, .inl (.inl (e _ _ h)), e1⟩
  yl := fun g i d H F1 x H' r e hd hy => by
    obtain ⟨rfl, hy⟩ := hy
    obtain ⟨v, e1, e2⟩ := ha.get hd
    have := hy vs (.inl (.inl (r.sub _ _ (e _ _ h))))
    rw [e1] at this
    cases this
    exact ⟨F1, r, e2.up e⟩
  stop := fun i H e hi => ⟨vs, .inl (.inl (e _ _ h)), by rw [ha.length]; exact hi⟩
theorem yl_tup {K : PySem.W.Frag} {F : Hp} {a : Addr} {vs : List V} {ds : List D} (h : SqT K F a vs) (ha : IsAll K F vs ds) : Yl K (Itt K a) F ds where
  go := fun i H e hi => by
    obtain ⟨v, e1, _⟩ := ha.get (List.getElem?_eq_getElem hi)
    exact ⟨vs, v, e.sqT h, e1⟩
  yl := fun g i d H F1 x H' r e hd hy => by
    obtain ⟨rfl, hy⟩ := hy
    obtain ⟨v, e1, e2⟩ := ha.get hd
    have := hy vs (r.sub.sqT (e.sqT h))
    rw [e1] at this
    cases this
    exact ⟨F1, r, e2.up e⟩
  stop := fun i H e hi => ⟨vs, e.sqT h, by rw [ha.length]; exact hi⟩
def rangeD (lo : Int) (n : Nat) : List D := (List.range n).map fun i => .int (lo + (i : Nat))
theorem yl_range {K : PySem.W.Frag} {F : Hp} {lo : Int} {n : Nat} : Yl K (Itr lo n) F (rangeD lo n) where
  go := fun i H e hi => by
    have : i < n := by simpa [rangeD] using hi
    exact this
  yl := fun g i d H F1 x H' r e hd hy => by
    obtain ⟨rfl, rfl⟩ := hy
    unfold rangeD at hd
    rw [List.getElem?_map] at hd
    cases hr : (List.range n)[i]? with
    | none => rw [hr] at hd; cases hd
    | some j =>
      rw [hr] at hd
      have hj : j = i := by
        obtain ⟨h1, h2⟩ := List.getElem?_eq_some_iff.mp hr
        rw [List.getElem_range] at h2
        exact h2.symm
      cases hd
      subst hj
      exact ⟨F1, r, .int _⟩
  stop := fun i H e hi => by
    have : n ≤ i := by simpa [rangeD] using hi
    exact this
/-- a list -/
def fItL (f : FE) : FI := fun ρ q x => f ρ (fun d => match d with | .lst xs => q xs | _ => False) x
theorem di_list (h : DE X g E m a fa) : DI X g E m tg a (fItL fa) := PIimp (pi_list h) fun σ H R ⟨H0, F0, F, ρ, q, x, Rl, hf, hq, hx⟩ =>
  ⟨H0, F0, F, ρ, _, x, Rl, hf, fun v H' F' d r i hd => by
    split at hd
    · cases i with
      | lst h1 h2 => exact ⟨_, rfl, ⟨_, .inl (.inl ((Rl.step r).fr.sub _ _ h1))⟩, hq _ H' F' _ r (yl_list h1 h2) hd⟩
    · exact hd.elim, hx⟩
/-- a tuple -/
def fItT (f : FE) : FI := fun ρ q x => f ρ (fun d => match d with | .tup xs => q xs | _ => False) x
theorem di_tup (h : DE X g E m a fa) : DI X g E m tg a (fItT fa) := PIimp (pi_tup h) fun σ H R ⟨H0, F0, F, ρ, q, x, Rl, hf, hq, hx⟩ =>
  ⟨H0, F0, F, ρ, _, x, Rl, hf, fun v H' F' d r i hd => by
    split at hd
    · cases i with
      | tup h1 h2 => exact ⟨_, rfl, ⟨_, (Rl.step r).fr.sub.sqT h1⟩, hq _ H' F' _ r (yl_tup h1 h2) hd⟩
    · exact hd.elim, hx⟩
def fRg1 (f : FE) : FI := fun ρ q x => f ρ (fun d => match d with | .int n => -(2 ^ 62) ≤ n ∧ n < 2 ^ 62 ∧ q (rangeD 0 n.toNat) | _ => False) x
theorem di_range1 (hg : Gl X "range") (hm : X.mg "range" = none) (h : DE X g E m a fa) (hs : starEach [a] X.env = [(false, eval a X.env)] := by rfl) : DI X g E m tg (.Call (.Name "range" p) [a] [] pos) (fRg1 fa) := PIimp (pi_range1 hg hm (pa_cons h pa_nil hs) hs) fun σ H R ⟨H0, F0, F, ρ, q, x, Rl, hf, hq, hx⟩ =>
  ⟨H0, F0, F, ρ, _, x, Rl, hf, fun v H' F' d r i hd => by
    split at hd
    · cases i
      exact ⟨_, rfl, hd.1, hd.2.1, hq _ H' F' _ r yl_range hd.2.2⟩
    · exact hd.elim, hx⟩
def fRg2 (f f' : FE) : FI := fun ρ q x => f ρ (fun d => f' ρ (fun e => match d, e with | .int lo, .int hi => (-(2 ^ 62) ≤ lo ∧ lo < 2 ^ 62 ∧ -(2 ^ 62) ≤ hi ∧ hi < 2 ^ 62) ∧ q (rangeD lo (hi - lo).toNat) | _, _ => False) x) x
theorem di_range2 (hg : Gl X "range") (hm : X.mg "range" = none) (h : DE X g E m a fa) (h' : DE X g E m b fb) (hs : starEach [a, b] X.env = [(false, eval a X.env), (false, eval b X.env)] := by rfl) (hs2 : starEach [b] X.env = [(false, eval b X.env)] := by rfl) :
    DI X g E m tg (.Call (.Name "range" p) [a, b] [] pos) (fRg2 fa fb) := PIimp (pi_range2 hg hm (pa_cons h (pa_cons h' pa_nil hs2) (by rw [hs, hs2])) hs hs2) fun σ H R ⟨H0, F0, F, ρ, q, x, Rl, hf, hq, hx⟩ =>
  ⟨H0, F0, F, ρ, _, x, Rl, hf, fun v H1 F1 d r1 i1 hd => ⟨H0, F0, F1, ρ, _, x, Rl.step r1, hd, fun w H2 F2 d2 r2 i2 hd => by
    split at hd
    · cases i1
      cases i2
      exact ⟨_, _, rfl, hd.1, hq _ H2 F2 _ (r1.trans r2) yl_range hd.2⟩
    · exact hd.elim, hx.step r1⟩, hx⟩
end

/-! ### targets -/
abbrev FG := D → Ro → (Ro → Prop) → Prop
def tG (K : PySem.W.Frag) (g : Gd) (m m' : List Nat) (f : FG) : TG := fun v σ H Q => ∃ H0 F0 F ρ d q, Rel K g H0 F0 m σ H F ρ ∧ Is K F v d ∧ f d ρ q ∧ ∀ σ' ρ', Rel K g H0 F0 m' σ' H F ρ' → q ρ' → Q σ' H
abbrev DG (X : Cx) (g : Gd) (m m' : List Nat) (e : Expr) (f : FG) : Prop := PG X e (tG X.K g m m' f)
theorem PGimp {X : Cx} {e : Expr} {t t' : TG} (h : PG X e t) (i : ∀ v σ H Q, t' v σ H Q → t v σ H Q) : PG X e t' := ⟨fun pins s σ H v u Q I r q => h.run pins s σ H v u Q I r (i v σ H Q q)⟩
def fName (i : Nat) : FG := fun d ρ q => i < ρ.length ∧ q (ρ.set i (some d))
abbrev del (m : List Nat) (i : Nat) : List Nat := m.filter (· ≠ i)
abbrev FGs := List D → Ro → (Ro → Prop) → Prop
def tGs (K : PySem.W.Frag) (g : Gd) (m m' : List Nat) (f : FGs) : TGs := fun vs σ H Q => ∃ H0 F0 F ρ ds q, Rel K g H0 F0 m σ H F ρ ∧ IsAll K F vs ds ∧ f ds ρ q ∧ ∀ σ' ρ', Rel K g H0 F0 m' σ' H F ρ' → q ρ' → Q σ' H
abbrev DGs (X : Cx) (g : Gd) (m m' : List Nat) (es : List Expr) (f : FGs) : Prop := PGs X es (tGs X.K g m m' f)
theorem PGsimp {X : Cx} {e : List Expr} {t t' : TGs} (h : PGs X e t) (i : ∀ v σ H Q, t' v σ H Q → t v σ H Q) : PGs X e t' := ⟨fun pins s σ H v u Q I r q => h.run pins s σ H v u Q I r (i v σ H Q q)⟩
def fGnil : FGs := fun ds ρ q => ds = [] ∧ q ρ
def fGcons (f : FG) (fs : FGs) : FGs := fun ds ρ q => match ds with | [] => False | d :: ds => f d ρ (fun ρ' => fs ds ρ' q)
def fGtup (n : Nat) (fs : FGs) : FG := fun d ρ q => match d with | .tup ds => ds.length = n ∧ fs ds ρ q | _ => False
section
variable {X : Cx} {g : Gd} {m m1 m2 : List Nat} {e : Expr} {es : List Expr} {f : FG} {fs : FGs} {pos : Pos}
theorem dg_name {i : Nat} {x : Str} (hN : X.N.Nodup) (hi : X.N[i]? = some x) (hx : Loc X.env.scope x) (hf : X.fn x = true ∨ X.env.scope.names.lookup x = some .local := by first | exact .inl rfl | exact .inr rfl | assumption) : DG X g m (del m i) (.Name x pos) (fName i) :=
  PGimp (pg_name hN hi hx hf) fun v σ H Q ⟨H0, F0, F, ρ, d, q, R, is, hf, hq⟩ => hq _ _ (R.set is hf.1) hf.2
theorem dgs_nil : DGs X g m m [] fGnil := PGsimp pgs_nil fun vs σ H Q ⟨H0, F0, F, ρ, ds, q, R, is, hf, hq⟩ => by
  obtain ⟨rfl, hf⟩ := hf
  cases is
  exact ⟨rfl, hq _ _ R hf⟩
theorem dgs_cons (h1 : DG X g m m1 e f) (h2 : DGs X g m1 m2 es fs) (hs : (assignEach (e :: es) X.env).map (·.2) = assign e X.env :: (assignEach es X.env).map (·.2) := by rfl) : DGs X g m m2 (e :: es) (fGcons f fs) :=
  PGsimp (pgs_cons h1 h2 hs) fun vs σ H Q ⟨H0, F0, F, ρ, ds, q, R, is, hf, hq⟩ => by
  unfold fGcons at hf
  split at hf
  · exact hf.elim
  · cases is with
    | cons i1 i2 => exact ⟨_, _, rfl, H0, F0, F, ρ, _, _, R, i1, hf, fun σ' ρ' R' hf' => ⟨H0, F0, F, ρ', _, q, R', i2, hf', fun σ2 ρ2 R2 h2 => hq _ _ R2 h2⟩⟩
theorem dg_tup {k n : Nat} (hc : X.calm = true) (h : DGs X g m m1 es fs) (hn : (assignEach es X.env).length = n := by rfl) (hst : (assignEach es X.env).findIdx? (·.1) = none := by rfl) : DG X g m m1 (.Tuple es k pos) (fGtup n fs) :=
  PGimp (pg_tup hc h hn hst) fun v σ H Q ⟨H0, F0, F, ρ, d, q, R, is, hf, hq⟩ => by
  unfold fGtup at hf
  split at hf
  · cases is with
    | tup h1 h2 => exact ⟨_, _, rfl, R.fr.sub.sqT h1, by rw [h2.length]; exact hf.1, H0, F0, F, ρ, _, q, R, h2, hf.2, hq⟩
  · exact hf.elim
end

/-! ### statements -/
structure DEnds where
  nx : Ro → Prop
  bk : Ro → Prop
  ct : Ro → Prop
  rt : D → Prop
  x : XD
abbrev FS := Ro → DEnds → Prop
/-- what a def hands back: data, or (k) a new list -/
def RetIs (K : PySem.W.Frag) (k : Bool) (H0 H F : Hp) (v : V) (d : D) : Prop :=
  match k with
  | false => Is K F v d
  | true => ∃ a vs xs, v = .ref a ∧ d = .lst xs ∧ H a = some (.lst vs) ∧ IsAll K F vs xs ∧ F a = none ∧ H0 a = none
def tS (K : PySem.W.Frag) (g : Gd) (E : XK) (k : Bool) (mb m m' : List Nat) (f : FS) : TS := fun D σ H => ∃ H0 F0 F ρ d, Rel K g H0 F0 m σ H F ρ ∧ f ρ d ∧
  (∀ σ' H' F' ρ', Rel K g H0 F0 m' σ' H' F' ρ' → Ex F F' → d.nx ρ' → D.nx σ' H') ∧ (∀ σ' H' F' ρ', Rel K g H0 F0 mb σ' H' F' ρ' → Ex F F' → d.bk ρ' → D.bk σ' H') ∧ (∀ σ' H' F' ρ', Rel K g H0 F0 mb σ' H' F' ρ' → Ex F F' → d.ct ρ' → D.ct σ' H') ∧
  (∀ v H' F' r, Fr g H0 F0 H' F' → RetIs K k H0 H' F' v r → d.rt r → D.rt v H') ∧ XE K g H0 F0 d.x E
abbrev DS (X : Cx) (g : Gd) (E : XK) (k : Bool) (mb m m' : List Nat) (st : Stmt) (f : FS) : Prop := PS X st (tS X.K g E k mb m m' f)
abbrev DSs (X : Cx) (g : Gd) (E : XK) (k : Bool) (mb m m' : List Nat) (st : List Stmt) (f : FS) : Prop := PSs X st (tS X.K g E k mb m m' f)
def fSkip : FS := fun ρ d => d.nx ρ
def fSeq (f f' : FS) : FS := fun ρ d => f ρ { d with nx := fun ρ' => f' ρ' d }
def fIfS (t : FT) (f f' : FS) : FS := fun ρ d => t ρ (fun b => if b = true then f ρ d else f' ρ d) d.x
def fRet (f : FE) : FS := fun ρ d => f ρ d.rt d.x
def fRetN : FS := fun _ d => d.rt .non
def fDrop (f : FE) : FS := fun ρ d => f ρ (fun _ => d.nx ρ) d.x
def fAsg (f : FE) (t : FG) : FS := fun ρ d => f ρ (fun a => t a ρ d.nx) d.x
def fBrk : FS := fun ρ d => d.bk ρ
def fCnt : FS := fun ρ d => d.ct ρ
def fNever : FS := fun _ _ => False
section
variable {X : Cx} {g : Gd} {E : XK} {k : Bool} {mb m m' m1 : List Nat} {st : Stmt} {sts ss : List Stmt} {f f' : FS} {e : Expr} {fe : FE} {ft : FT} {pos : Pos}
theorem dss_nil : DSs X g E k mb m m [] fSkip := PSsimp pss_nil fun D σ H ⟨H0, F0, F, ρ, d, R, hf, h1, h2, h3, h4, h5⟩ => h1 σ H F ρ R (Ex.refl _) hf
theorem dss_cons (h : DS X g E k mb m m1 st f) (h' : DSs X g E k mb m1 m' sts f') : DSs X g E k mb m m' (st :: sts) (fSeq f f') := PSsimp (pss_cons h h') fun D σ H ⟨H0, F0, F, ρ, d, R, hf, h1, h2, h3, h4, h5⟩ =>
  ⟨H0, F0, F, ρ, _, R, hf, fun σ' H' F' ρ' R' e hf' => ⟨H0, F0, F', ρ', d, R', hf', fun σ2 H2 F2 ρ2 R2 e2 => h1 σ2 H2 F2 ρ2 R2 (e.trans e2), fun σ2 H2 F2 ρ2 R2 e2 => h2 σ2 H2 F2 ρ2 R2 (e.trans e2), fun σ2 H2 F2 ρ2 R2 e2 => h3 σ2 H2 F2 ρ2 R2 (e.trans e2), h4, h5⟩, h2, h3, h4, h5⟩
theorem dss_one (h : DS X g E k mb m m' st f) : DSs X g E k mb m m' [st] f := pss_one h
theorem weakIn {t : List Nat} (h : m1.all (fun i => m.contains i) = true) {D : Ends} {σ : L2.St} {H : Hp} (q : tS X.K g E k mb m m' f D σ H) : tS X.K g E k mb m1 m' f D σ H := by
  obtain ⟨H0, F0, F, ρ, d, R, hf, h1, h2, h3, h4, h5⟩ := q
  obtain ⟨F', R', e⟩ := R.weak h
  exact ⟨H0, F0, F', ρ, d, R', hf, fun σ2 H2 F2 ρ2 R2 e2 => h1 σ2 H2 F2 ρ2 R2 (e.trans e2), fun σ2 H2 F2 ρ2 R2 e2 => h2 σ2 H2 F2 ρ2 R2 (e.trans e2), fun σ2 H2 F2 ρ2 R2 e2 => h3 σ2 H2 F2 ρ2 R2 (e.trans e2), h4, h5⟩
theorem weakOut (h : m'.all (fun i => m1.contains i) = true) {D : Ends} {σ : L2.St} {H : Hp} (q : tS X.K g E k mb m m' f D σ H) : tS X.K g E k mb m m1 f D σ H := by
  obtain ⟨H0, F0, F, ρ, d, R, hf, h1, h2, h3, h4, h5⟩ := q
  exact ⟨H0, F0, F, ρ, d, R, hf, fun σ' H' F' ρ' R' e hn => by
    obtain ⟨F2, R2, e2⟩ := R'.weak h
    exact h1 σ' H' F2 ρ' R2 (e.trans e2) hn, h2, h3, h4, h5⟩
/-- fewer lists ours ahead, behind -/
theorem dss_in (m1 : List Nat) (h : DSs X g E k mb m1 m' sts f) (hm : m1.all (fun i => m.contains i) = true := by rfl) : DSs X g E k mb m m' sts f := PSsimp h fun _ _ _ q => weakIn (t := []) hm q
theorem dss_out {m1 : List Nat} (h : DSs X g E k mb m m1 sts f) (hm : m'.all (fun i => m1.contains i) = true := by rfl) : DSs X g E k mb m m' sts f := PSsimp h fun _ _ _ q => weakOut hm q
theorem ds_in (m1 : List Nat) (h : DS X g E k mb m1 m' st f) (hm : m1.all (fun i => m.contains i) = true := by rfl) : DS X g E k mb m m' st f := PSimp h fun _ _ _ q => weakIn (t := []) hm q
theorem ds_out {m1 : List Nat} (h : DS X g E k mb m m1 st f) (hm : m'.all (fun i => m1.contains i) = true := by rfl) : DS X g E k mb m m' st f := PSimp h fun _ _ _ q => weakOut hm q
theorem ds_pass : DS X g E k mb m m (.Pass pos) fSkip := PSimp ps_pass fun D σ H ⟨H0, F0, F, ρ, d, R, hf, h1, h2, h3, h4, h5⟩ => h1 σ H F ρ R (Ex.refl _) hf
theorem ds_break : DS X g E k m m m' (.Break pos) fBrk := PSimp ps_break fun D σ H ⟨H0, F0, F, ρ, d, R, hf, h1, h2, h3, h4, h5⟩ => h2 σ H F ρ R (Ex.refl _) hf
theorem ds_continue : DS X g E k m m m' (.Continue pos) fCnt := PSimp ps_continue fun D σ H ⟨H0, F0, F, ρ, d, R, hf, h1, h2, h3, h4, h5⟩ => h3 σ H F ρ R (Ex.refl _) hf
theorem ds_never : DS X g E k mb m m' st fNever := PSimp ps_never fun D σ H ⟨H0, F0, F, ρ, d, R, hf, _⟩ => hf.elim
theorem dss_never : DSs X g E k mb m m' sts fNever := PSsimp pss_never fun D σ H ⟨H0, F0, F, ρ, d, R, hf, _⟩ => hf.elim
theorem ds_if {c : Expr} {ss' : List Stmt} (hc : DT X g E m c ft) (ha : DSs X g E k mb m m' sts f) (hb : DSs X g E k mb m m' ss' f') : DS X g E k mb m m' (.If c sts ss' pos) (fIfS ft f f') := PSimp (ps_if hc ha hb) fun D σ H ⟨H0, F0, F, ρ, d, R, hf, h1, h2, h3, h4, h5⟩ =>
  ⟨H0, F0, F, ρ, _, d.x, R, hf, fun b H' F' r hb => by
    have R' := R.step r
    have e := r.f0
    cases b with
    | true =>
      rw [if_pos rfl] at hb
      exact iteT ⟨H0, F0, F', ρ, d, R', hb, fun σ2 H2 F2 ρ2 R2 e2 => h1 σ2 H2 F2 ρ2 R2 (e.trans e2), fun σ2 H2 F2 ρ2 R2 e2 => h2 σ2 H2 F2 ρ2 R2 (e.trans e2), fun σ2 H2 F2 ρ2 R2 e2 => h3 σ2 H2 F2 ρ2 R2 (e.trans e2), h4, h5⟩
    | false =>
      rw [if_neg Bool.false_ne_true] at hb
      exact iteF ⟨H0, F0, F', ρ, d, R', hb, fun σ2 H2 F2 ρ2 R2 e2 => h1 σ2 H2 F2 ρ2 R2 (e.trans e2), fun σ2 H2 F2 ρ2 R2 e2 => h2 σ2 H2 F2 ρ2 R2 (e.trans e2), fun σ2 H2 F2 ρ2 R2 e2 => h3 σ2 H2 F2 ρ2 R2 (e.trans e2), h4, h5⟩, h5.step R.fr⟩
theorem ds_ret (h : DE X g E m e fe) : DS X g E false mb m m' (.Return (some e) pos) (fRet fe) := PSimp (ps_ret h) fun D σ H ⟨H0, F0, F, ρ, d, R, hf, h1, h2, h3, h4, h5⟩ =>
  ⟨H0, F0, F, ρ, _, d.x, R, hf, fun v H' F' r q i hd => h4 v H' F' r (R.fr.trans q) i hd, h5.step R.fr⟩
/-- a new list handed back -/
theorem ds_retF (h : DF X g E m e fe) : DS X g E true mb m m' (.Return (some e) pos) (fRet fe) := PSimp (ps_ret h) fun D σ H ⟨H0, F0, F, ρ, d, R, hf, h1, h2, h3, h4, h5⟩ =>
  ⟨H0, F0, F, ρ, _, d.x, R, hf, fun p H' F' vs xs q n e1 e2 ha hd => h4 _ H' F' _ (R.fr.trans q) ⟨p, vs, xs, rfl, rfl, e1, ha, e2, R.fr.back n⟩ hd, h5.step R.fr⟩
/-- a list of ours handed back -/
theorem ds_retO {i : Nat} (h : PE X e (tVar i)) (hm : m.contains i = true := by rfl) : DS X g E true mb m m' (.Return (some e) pos) (fRet (fVar i)) := PSimp (ps_ret h) fun D σ H ⟨H0, F0, F, ρ, d, R, hf, h1, h2, h3, h4, h5⟩ => by
  obtain ⟨oa, q1, _⟩ := R.own
  obtain ⟨vs, xs, e1, e2, e3, e4, e5, e6⟩ := q1 i (by simpa using hm)
  have hf' : fVar i ρ d.rt d.x := hf
  unfold fVar at hf'
  rw [e2] at hf'
  exact ⟨_, e1, h4 _ H F _ R.fr ⟨_, vs, xs, rfl, rfl, e3, e4, e5, e6⟩ hf'⟩
theorem ds_retN : DS X g E false mb m m' (.Return none pos) fRetN := PSimp ps_retN fun D σ H ⟨H0, F0, F, ρ, d, R, hf, h1, h2, h3, h4, h5⟩ => h4 _ H F _ R.fr Is.non hf
theorem ds_expr (h : DE X g E m e fe) (hs : swapsWith e none pos.line X.env = pure false := by rfl) : DS X g E k mb m m (.Expr e pos) (fDrop fe) := PSimp (ps_expr h hs) fun D σ H ⟨H0, F0, F, ρ, d, R, hf, h1, h2, h3, h4, h5⟩ =>
  ⟨H0, F0, F, ρ, _, d.x, R, hf, fun v H' F' r q i hd => h1 σ H' F' ρ (R.step q) q.f0 hd, h5.step R.fr⟩
/-- target = e -/
theorem ds_asg {tg : Expr} {tf : FG} (he : DE X g E m e fe) (hg : DG X g m m' tg tf) (hs : swapsWithSole [tg] e pos.line X.env = pure false := by rfl) (hw : swappedStores [tg] e X.env = pure none := by rfl)
    (h1 : (assignEach [tg] X.env).map (·.2) = [assign tg X.env] := by rfl) : DS X g E k mb m m' (.Assign [tg] e pos) (fAsg fe tf) := PSimp (ps_asg he hg hs hw h1) fun D σ H ⟨H0, F0, F, ρ, d, R, hf, h1, h2, h3, h4, h5⟩ =>
  ⟨H0, F0, F, ρ, _, d.x, R, hf, fun v H' F' r q i hd => ⟨H0, F0, F', ρ, r, d.nx, R.step q, i, hd, fun σ' ρ' R' hn => h1 σ' H' F' ρ' R' q.f0 hn⟩, h5.step R.fr⟩
theorem ds_set {i : Nat} {x : Str} {pos' : Pos} (hN : X.N.Nodup) (hi : X.N[i]? = some x) (hx : Loc X.env.scope x) (he : DE X g E m e fe) (hs : swapsWith e (some (.Name x pos')) pos.line X.env = pure false := by rfl) (hf : X.fn x = true ∨ X.env.scope.names.lookup x = some .local := by first | exact .inl rfl | exact .inr rfl | assumption) :
    DS X g E k mb m (del m i) (.Assign [.Name x pos'] e pos) (fAsg fe (fName i)) := PSimp (ps_set hN hi hx he hs hf) fun D σ H ⟨H0, F0, F, ρ, d, R, hf, h1, h2, h3, h4, h5⟩ =>
  ⟨H0, F0, F, ρ, _, d.x, R, hf, fun v H' F' r q i hd => h1 _ H' F' _ ((R.step q).set i hd.1) q.f0 hd.2, h5.step R.fr⟩
/-- name = a new list, ours -/
theorem ds_setF {i : Nat} {x : Str} {pos' : Pos} (hN : X.N.Nodup) (hi : X.N[i]? = some x) (hx : Loc X.env.scope x) (he : DF X g E m e fe) (hs : swapsWith e (some (.Name x pos')) pos.line X.env = pure false := by rfl) (hf : X.fn x = true ∨ X.env.scope.names.lookup x = some .local := by first | exact .inl rfl | exact .inr rfl | assumption) :
    DS X g E k mb m (i :: del m i) (.Assign [.Name x pos'] e pos) (fAsg fe (fName i)) := PSimp (ps_set hN hi hx he hs hf) fun D σ H ⟨H0, F0, F, ρ, d, R, hf, h1, h2, h3, h4, h5⟩ =>
  ⟨H0, F0, F, ρ, _, d.x, R, hf, fun p H' F' vs xs q n e1 e2 ha hd => h1 _ H' F' _ ((R.step q).setO hd.1 e1 e2 (R.fr.back n) ha fun j v ej hj z => by
    subst z
    obtain ⟨oa, q1, _⟩ := R.own
    obtain ⟨vs', xs', e1', _, e3', _⟩ := q1 j hj
    rw [ej] at e1'
    cases e1'
    rw [n] at e3'
    cases e3') q.f0 hd.2, h5.step R.fr⟩
end

/-! ### loops -/
/-- the turns over the items -/
def forL (t : FG) (b : FS) (d : DEnds) : List D → Ro → Prop
  | [], ρ => d.nx ρ
  | a :: r, ρ => t a ρ fun ρ1 => b ρ1 { d with nx := fun ρ2 => forL t b d r ρ2, ct := fun ρ2 => forL t b d r ρ2, bk := d.nx }
def fFor (i : FI) (t : FG) (b : FS) : FS := fun ρ d => i ρ (fun ds => forL t b d ds ρ) d.x
section
variable {X : Cx} {g : Gd} {E : XK} {k : Bool} {mb m mt : List Nat} {body : List Stmt} {b : FS} {iter tg : Expr} {fi : FI} {t : FG} {pos : Pos}
theorem ds_for (hp : PassesOwn (model X.prog X.w) X.A X.env X.xe) (hc : X.calm = true) (hi : DI X g E m tg iter fi) (hg : DG X g m mt tg t) (hb : DSs X g E k m mt m body b) (hs : ∀ x, foldedSetIterable iter X.env x = pure x := by intro _; rfl) :
    DS X g E k mb m m (.For tg iter body [] pos) (fFor fi t b) := PSimp (ps_for hp hc hi hg hb hs) fun D σ H ⟨H0, F0, F, ρ, d, R, hf, h1, h2, h3, h4, h5⟩ => by
  refine ⟨H0, F0, F, ρ, _, d.x, R, hf, fun J H1 F1 ds r1 y hd => ?_, h5.step R.fr⟩
  refine ⟨fun i mm σ' H' => mm = ds.length - i ∧ i ≤ ds.length ∧ ∃ F' ρ', Rel X.K g H0 F0 m σ' H' F' ρ' ∧ Ex F1 F' ∧ forL t b d (ds.drop i) ρ', ⟨_, rfl, Nat.zero_le _, F1, ρ, R.step r1, Ex.refl _, hd⟩, ?_⟩
  rintro i mm σ' H' ⟨rfl, hi, F', ρ', R', ex, hl⟩
  by_cases hlt : i < ds.length
  · refine .inr ⟨y.go i H' (ex.trans R'.fr.sub) hlt, fun σ2 H2 => ∃ F2 ρ2, Rel X.K g H0 F0 m σ2 H2 F2 ρ2 ∧ Ex F1 F2 ∧ forL t b d (ds.drop (i + 1)) ρ2, fun σ2 H2 ⟨F2, ρ2, R2, ex2, hl2⟩ => ⟨ds.length - (i + 1), by omega, rfl, hlt, F2, ρ2, R2, ex2, hl2⟩, fun x H2 hy => ?_⟩
    obtain ⟨F2, r2, is2⟩ := y.yl g i ds[i] H' F' x H2 R'.fr.self ex (List.getElem?_eq_getElem hlt) hy
    rw [List.drop_eq_getElem_cons hlt] at hl
    have R2 := R'.step r2
    refine ⟨H0, F0, F2, ρ', ds[i], _, R2, is2, hl, fun σ3 ρ3 R3 hb3 => ?_⟩
    have ex2 : Ex F1 F2 := ex.trans r2.f0
    refine ⟨H0, F0, F2, ρ3, _, R3, hb3, fun σ4 H4 F4 ρ4 R4 e4 n4 => ⟨F4, ρ4, R4, ex2.trans e4, n4⟩, fun σ4 H4 F4 ρ4 R4 e4 n4 => h1 σ4 H4 F4 ρ4 R4 (r1.f0.trans (ex2.trans e4)) n4, fun σ4 H4 F4 ρ4 R4 e4 n4 => ⟨F4, ρ4, R4, ex2.trans e4, n4⟩, h4, h5⟩
  · have e : i = ds.length := by omega
    subst e
    rw [List.drop_length] at hl
    exact .inl ⟨y.stop _ H' (ex.trans R'.fr.sub) (Nat.le_refl _), h1 σ' H' F' ρ' R' (r1.f0.trans ex) hl⟩
end
end DL

/-! DL5: what a def promises over data; its body; its calls. -/
namespace DL
open PySem PySem.Spec PyProof.Rows L2
section
variable {P : Program} {w : World} {K : PySem.W.Frag} {mg : Str → Option Value} {base : Heap} {CX : CXT} {f : Addr} {fd : FuncData} {ps : List Str} {sp : Sp}
/-- as FnOk, where nothing is being shown (repr) around the call -/
structure FnG (P : Program) (w : World) (K : PySem.W.Frag) (mg : Str → Option Value) (base : Heap) (CX : CXT) (k : Nat) (f : Addr) (fd : FuncData) (ps : List Str) (sp : Sp) : Prop where
  len : ∀ vs H Q E, sp vs H Q E → vs.length = ps.length
  run : ∀ (A : Around) (outer : List Env) (s : Shared) (H : Hp) (args : Args) (us : List Value) (vs : List V) (Q : VK) (E : XK), Room k A → A.guards = some [] → Env0 P w K mg base A outer s H → BindsTo s fd args (ps.zip us) → Vals vs us → sp vs H Q E →
    codeAny (model P w) A (.call (.ref f) args) (CR CX outer P w H s Q E) s
theorem FnG.mono {j k : Nat} (F : FnG P w K mg base CX j f fd ps sp) (h : j ≤ k) : FnG P w K mg base CX k f fd ps sp := ⟨F.len, fun A outer s H args us vs Q E hr => F.run A outer s H args us vs Q E (hr.mono h)⟩
theorem deeper_guards {A : Around} {env : Env} (h : A.guards = some []) : (A.deeper env).guards = some [] := h
/-- every parameter is a local name or a cell that is laid -/
theorem par_laid {ps N : List Str} {sc : Scope} (S : FnScope N ps sc) (n : Nat) (us : List Value) {y : Str × Value} (h : y ∈ ps.zip us) :
    sc.names.lookup y.1 = some .local ∨ (sc.names.lookup y.1 = some .cell ∧ ((cellsFrom n sc.names []).lookup y.1).isSome = true) :=
  (S.par y.1 (List.of_mem_zip (a := y.1) (b := y.2) h).1).imp id fun c => ⟨c, PySem.W.cellsFrom_some _ _ _ (.inl c)⟩
def flowV : Flow → Value
  | .ret v => v
  | _ => .none
/-- a body's end is the def's end -/
theorem flow_end {P : Program} {w : World} {X : Cx} {outer : List Env} {s : Shared} {H : Hp} {Q : VK} (h0 : X.s_0 = s) (hH : X.H_0 = H) (ho : X.outer = outer) (hP : X.prog = P) (hw : X.w = w) (hx : X.ex = []) {fl : Flow} {s' : Shared}
    (h : SP X [] { nx := fun _ H' => Q .non H', rt := Q } fl s') : CE outer P w H s Q (flowV fl) s' := by
  subst h0 hH ho hP hw
  have give : ∀ {τ : L2.St} {J : Hp} {v : V} {u : Value}, Inv X [] τ J s' → RelV v u → Q v J → CE X.outer X.prog X.w X.H_0 X.s_0 Q u s' := fun {_ J v _} I e q => by
    have hu := I.base
    rw [hx] at hu
    exact ⟨v, J, I.os, I.bare, hu, I.hok, e, q⟩
  match fl, h with
  | .ret _, ⟨_, _, _, I, e, q⟩ => exact give I e q
  | .next, ⟨_, _, I, q⟩ => exact give (v := .non) (u := .none) I rfl q
  | .brk, ⟨_, _, _, q⟩ => exact q.elim
  | .cont, ⟨_, _, _, q⟩ => exact q.elim
theorem fnG_of {k : Nat} {name qual : Str} {params : Arguments} {body : List Stmt} {scope : Scope} {dV kV doc pm cdv ct oc : Value} {an od : Option Addr}
    {osl : Array (Option Value)} {N : List Str} (here : K.lookup f = some ⟨oc, od, .func (PySem.W.fnOf name qual params body scope dV kV doc pm an cdv ct), osl⟩) (code : PySem.W.codeIn K cdv qual = true) (S : FnScope N ps scope)
    (len : ∀ vs H Q E, sp vs H Q E → vs.length = ps.length)
    (walk : ∀ (A : Around) (outer : List Env) (s : Shared) (H : Hp) (vs : List V) (Q : VK) (E : XK), Room k (A.deeper (envOfC qual scope s.heap.objs.size f cdv)) → (A.deeper (envOfC qual scope s.heap.objs.size f cdv)).guards = some [] → sp vs H Q E →
      ∃ t, PSs (cxOf CX P w K mg base N qual scope f cdv A outer s H E) body t ∧ t { nx := fun _ H' => Q .non H', rt := Q } (L2.start N vs) H) :
    FnG P w K mg base CX (k + 1) f (PySem.W.fnOf name qual params body scope dV kV doc pm an cdv ct) ps sp where
  len := len
  run A outer s H args us vs Q E room quiet env0 bind rel want := by
    have std : ∀ b o, base.get? b = some o → s.heap.get? b = some o := fun b o z => (env0.bs b o z).1
    have kin := env0.mod.kin.keeps std
    obtain ⟨t, der, sat⟩ := walk A outer s H vs Q E (room.deeper _) (deeper_guards quiet) want
    apply codeAny_call_function room.depth (kin _ _ here) rfl S.co S.gen rfl (PySem.W.codeRec_of kin code)
    apply bind
    apply wpAny_newFunctionEnv_cells S.kind (fun y hy => par_laid S _ us hy)
    rintro _ rfl s1 laid
    refine ⟨(env0.mod.nolimit.keeps std).keeps laid.toInCall.keep, codeAny_func ?_⟩
    exact wpAny_mono (der.run [] s1 _ H _ (inv_start S room.hd env0 (len _ _ _ _ want) rel laid) sat) (fun fl s' z => by
      have q := flow_end (outer := outer) (P := P) (w := w) (H := H) (s := s) rfl rfl rfl rfl rfl rfl z
      cases fl <;> exact q) fun _ _ z => z
end
/-- nothing leaves -/
theorem passN {X : Cx} {E : XK} : Passes CX0 X E := fun _ _ _ _ _ _ _ h => h.elim
section
variable {X : Cx} {CX : CXT} {k : Nat} {f : Addr} {fd : FuncData} {ps : List Str} {sp : Sp} {dvs : List V} {ds : List Value} {E : XK} {x : Str} {p pos : Pos} {e : Expr} {es : List Expr} {t tk : TA}
theorem run_fnG {pins : List (Addr × Obj)} {σ : L2.St} {H : Hp} {s : Shared} {Q : VK} {us ws : List Value} {vs : List V} {args : Args} (F : FnG X.prog X.w X.K X.mg X.base CX k f fd ps sp) (hr : Room k X.A) (hG : X.A.guards = some []) (hx : Passes CX X E)
    (I : Inv X pins σ H s) (hb : BindsTo s fd args (ps.zip us)) (r : Vals vs us) (h : sp vs H Q E) : codeAny (model X.prog X.w) X.A (.call (.ref f) args) (fun r s' => match r with | .ok (.ret u) => EP X pins σ Q u s' | .ok _ => False | .error e => X.xe e s') s := by
  refine codeAny_mono (F.run X.A X.stack s H args us vs Q E hr hG I.env0 hb r h) fun r s' hq => ?_
  cases r with
  | error e => exact hx pins σ H s e s' I hq
  | ok fl =>
    cases fl with
    | ret u => exact I.after hq
    | next => exact False.elim hq
    | brk => exact False.elim hq
    | cont => exact False.elim hq
theorem call_fin {pins : List (Addr × Obj)} {σ : L2.St} {s : Shared} {Q : VK} {us : List Value} {kw : List (Str × Value)} (h : codeAny (model X.prog X.w) X.A (.call (.ref f) ⟨us, kw⟩) (fun r s' => match r with | .ok (.ret u) => EP X pins σ Q u s' | .ok _ => False | .error e => X.xe e s') s) :
    wpAny (model X.prog X.w) X.A (call (.ref f) us kw) (EP X pins σ Q) X.xe s := by
  refine wpAny_call (codeAny_mono h fun r s' hq => ?_)
  cases r with
  | error e => exact hq
  | ok fl =>
    cases fl with
    | ret u => exact hq
    | next => exact hq
    | brk => exact hq
    | cont => exact hq
theorem pe_callG (F : FnG X.prog X.w X.K X.mg X.base CX k f fd ps sp) (hr : Room k X.A) (hG : X.A.guards = some []) (hg : Gl X x) (hm : X.mg x = some (.ref f)) (hk : PySem.W.keepIn X.K (.ref f) = true) (hb : Binds X.K fd ps ds) (hd : Vals dvs ds) (hx : Passes CX X E)
    (ha : PA X (e :: es) t) (hdb : (x == ("__debug__" : Str)) = false := by decide) (he : starEach (e :: es) X.env = (false, eval e X.env) :: starEach es X.env := by rfl) (hpl : (backTo pos (starEach es X.env)).any (·.1) = false := by rfl) :
    PE X (.Call (.Name x p) (e :: es) [] pos) (tCall sp dvs E t) := by
  refine ⟨fun pins s σ H Q I h => ?_⟩
  refine wpAny_Call_Name_kw (ld_glob I hg hm ?_ hdb)
  refine PySem.W.callWith_K (h₀ := X.base) I.ok.mod.kin hk (thn (ha.run pos pins s σ H _ I h) fun us s1 ⟨vs, H1, I1, r, q⟩ => ⟨I1.kIn, ?_⟩) he hpl
  have r2 : Vals (vs ++ dvs) (us ++ ds) := r.append hd
  have hl : (us ++ ds).length = ps.length := by rw [← r2.length]; exact F.len _ _ _ _ q
  exact call_fin (run_fnG (ws := []) F hr hG hx I1 (hb s1 us I1.kIn hl) r2 q)
theorem pe_callG0 (F : FnG X.prog X.w X.K X.mg X.base CX k f fd ps sp) (hr : Room k X.A) (hG : X.A.guards = some []) (hg : Gl X x) (hm : X.mg x = some (.ref f)) (hk : PySem.W.keepIn X.K (.ref f) = true) (hb : Binds X.K fd ps ds) (hd : Vals dvs ds) (hx : Passes CX X E)
    (hdb : (x == ("__debug__" : Str)) = false := by decide) : PE X (.Call (.Name x p) [] [] pos) (tCall sp dvs E tNil) := by
  refine ⟨fun pins s σ H Q I h => ?_⟩
  refine wpAny_Call_Name_kw (ld_glob I hg hm ?_ hdb)
  have r2 : Vals ([] ++ dvs) ([] ++ ds) := hd
  have hl : ([] ++ ds).length = ps.length := by rw [← r2.length]; exact F.len _ _ _ _ h
  exact PySem.W.callWith_K0 I.kIn hk (call_fin (run_fnG (ws := []) F hr hG hx I (hb s [] I.kIn hl) r2 h))
/-- the items at these places -/
def pick {α : Type} (ix : List Nat) (l : List α) : List α := ix.filterMap fun i => l[i]?
theorem pick_vals {vs : List V} {us : List Value} (r : Vals vs us) : ∀ ix : List Nat, Vals (pick ix vs) (pick ix us)
  | [] => .nil
  | i :: ix => by
    unfold pick
    rw [List.filterMap_cons, List.filterMap_cons]
    cases e : vs[i]? with
    | none =>
      rw [r.none_of e]
      exact pick_vals r ix
    | some v =>
      obtain ⟨u, e1, e2⟩ := r.get e
      rw [e1]
      exact .cons e2 (pick_vals r ix)
theorem pick_all {K : PySem.W.Frag} {F : Hp} {vs : List V} {ds : List D} (r : IsAll K F vs ds) : ∀ ix : List Nat, IsAll K F (pick ix vs) (pick ix ds)
  | [] => .nil
  | i :: ix => by
    unfold pick
    rw [List.filterMap_cons, List.filterMap_cons]
    cases e : vs[i]? with
    | none =>
      have h := r.length
      have h1 := List.getElem?_eq_none_iff.mp e
      rw [List.getElem?_eq_none_iff.mpr (show ds.length ≤ i by omega)]
      exact pick_all r ix
    | some v =>
      obtain ⟨d, e1, e2⟩ := r.getV e
      rw [e1]
      exact .cons e2 (pick_all r ix)
/-- a call with keywords binds: n positional values, then those of the keywords ks, picked by ix -/
def KB (K : PySem.W.Frag) (fd : FuncData) (ps : List Str) (n : Nat) (ks : List Str) (ix : List Nat) : Prop :=
  ∀ (s : Shared) (us ws : List Value), K.In s.heap → us.length = n → ws.length = ks.length → BindsTo s fd ⟨us, ks.zip ws⟩ (ps.zip (pick ix (us ++ ws)))
def tCallP (n nk : Nat) (ix : List Nat) (sp : Sp) (E : XK) (t tk : TA) : TE := fun σ H Q => t σ H fun vs H1 => tk σ H1 fun zs H2 => vs.length = n ∧ zs.length = nk ∧ sp (pick ix (vs ++ zs)) H2 Q E
variable {kws : List Keyword} {n : Nat} {ks : List Str} {ix : List Nat}
theorem pe_callGK (F : FnG X.prog X.w X.K X.mg X.base CX k f fd ps sp) (hr : Room k X.A) (hG : X.A.guards = some []) (hg : Gl X x) (hm : X.mg x = some (.ref f)) (hk : PySem.W.keepIn X.K (.ref f) = true) (hb : KB X.K fd ps n ks ix) (hx : Passes CX X E)
    (ha : PA X (e :: es) t) (hkw : PK X kws tk) (hall : (backToKw pos (keywordEach kws X.env)).all (·.1.isSome) = true := by rfl) (hks : (backToKw pos (keywordEach kws X.env)).filterMap (·.1) = ks := by rfl)
    (hdb : (x == ("__debug__" : Str)) = false := by decide) (he : starEach (e :: es) X.env = (false, eval e X.env) :: starEach es X.env := by rfl)
    (hpl : ((backTo pos (starEach (e :: es) X.env)).any (·.1) || (backToKw pos (keywordEach kws X.env)).any (·.1.isNone)) = false := by rfl) :
    PE X (.Call (.Name x p) (e :: es) kws pos) (tCallP n ks.length ix sp E t tk) := by
  refine ⟨fun pins s σ H Q I h => ?_⟩
  refine wpAny_Call_Name_kw (ld_glob I hg hm ?_ hdb)
  refine PySem.W.callWith_KW (h₀ := X.base) I.ok.mod.kin hk hall (thn (ha.run pos pins s σ H _ I h) fun us s1 ⟨vs, H1, I1, r, q⟩ => ?_) hpl he
  refine thn (hkw.run pos pins s1 σ H1 _ I1 q) fun ws s2 ⟨zs, H2, I2, rz, l1, l2, q2⟩ => ⟨I2.kIn, ?_⟩
  rw [hks]
  have r2 : Vals (pick ix (vs ++ zs)) (pick ix (us ++ ws)) := pick_vals (r.append rz) ix
  exact call_fin (run_fnG (ws := []) F hr hG hx I2 (hb s2 us ws I2.kIn (by rw [← r.length]; exact l1) (by rw [← rz.length]; exact l2)) r2 q2)
theorem pe_callGK0 (F : FnG X.prog X.w X.K X.mg X.base CX k f fd ps sp) (hr : Room k X.A) (hG : X.A.guards = some []) (hg : Gl X x) (hm : X.mg x = some (.ref f)) (hk : PySem.W.keepIn X.K (.ref f) = true) (hb : KB X.K fd ps 0 ks ix) (hx : Passes CX X E)
    (hkw : PK X kws tk) (hall : (backToKw pos (keywordEach kws X.env)).all (·.1.isSome) = true := by rfl) (hks : (backToKw pos (keywordEach kws X.env)).filterMap (·.1) = ks := by rfl)
    (hdb : (x == ("__debug__" : Str)) = false := by decide)
    (hpl : ((backTo pos (starEach [] X.env)).any (·.1) || (backToKw pos (keywordEach kws X.env)).any (·.1.isNone)) = false := by rfl) :
    PE X (.Call (.Name x p) [] kws pos) (tCallP 0 ks.length ix sp E tNil tk) := by
  refine ⟨fun pins s σ H Q I h => ?_⟩
  refine wpAny_Call_Name_kw (ld_glob I hg hm ?_ hdb)
  refine PySem.W.callWith_KW0 (h₀ := X.base) I.ok.mod.kin hk hall ?_ hpl
  refine thn (hkw.run pos pins s σ H _ I h) fun ws s2 ⟨zs, H2, I2, rz, l1, l2, q2⟩ => ⟨I2.kIn, ?_⟩
  rw [hks]
  have r2 : Vals (pick ix ([] ++ zs)) (pick ix ([] ++ ws)) := pick_vals rz ix
  exact call_fin (run_fnG (ws := []) F hr hG hx I2 (hb s2 [] ws I2.kIn rfl (by rw [← rz.length]; exact l2)) r2 q2)
end

/-! ### promises over data -/
abbrev Fn := List D → (D → Prop) → XD → Prop
/-- a def that does not see the deck; kd: it hands back a new list -/
def spN (K : PySem.W.Frag) (kd : Bool) (f : Fn) : Sp := fun vs H Q E => ∃ F ds q x, Fr none H F H F ∧ IsAll K F vs ds ∧ f ds q x ∧ (∀ v H' F' d, Fr none H F H' F' → RetIs K kd H H' F' v d → q d → Q v H') ∧ XE K none H F x E
/-- a def whose first parameter is the deck (its list's name: nm) -/
def spG (K : PySem.W.Frag) (nm : Str) (kd : Bool) (f : Fn) : Sp := fun vs H Q E => ∃ d l F ds q x, Fr (some (nm, d, l)) H F H F ∧ IsAll K F vs (.ref d :: ds) ∧ f ds q x ∧ (∀ v H' F' r, Fr (some (nm, d, l)) H F H' F' → RetIs K kd H H' F' v r → q r → Q v H') ∧ XE K (some (nm, d, l)) H F x E
section
variable {P : Program} {w : World} {K : PySem.W.Frag} {mg : Str → Option Value} {base : Heap} {f : Addr} {fd : FuncData} {N ps : List Str} {k n : Nat} {fn : Fn} {kd : Bool} {nm qual x : Str} {params : Arguments} {body : List Stmt} {scope : Scope} {dvs : List V}
/-- the slots at the entry -/
def startD (n : Nat) (ds : List D) : Ro := ds.map some ++ List.replicate (n - ds.length) none
theorem start_rel {g : Gd} {H F : Hp} {vs : List V} {ds : List D} (r : Fr g H F H F) (h : IsAll K F vs ds) : Rel K g H F [] (L2.start N vs) H F (startD N.length ds) := by
  have hl := h.length
  refine ⟨r, ?_, fun i d e _ => ?_, fun _ => 0, fun i hi => (by cases hi), fun i hi => (by cases hi)⟩
  · unfold L2.start startD
    rw [List.length_append, List.length_append, List.length_map, List.length_map, List.length_replicate, List.length_replicate, hl]
  · unfold startD at e
    by_cases hi : i < ds.length
    · rw [List.getElem?_append_left (by simpa using hi), List.getElem?_map, List.getElem?_eq_getElem hi] at e
      cases e
      obtain ⟨v, e1, e2⟩ := h.get (List.getElem?_eq_getElem hi)
      refine ⟨v, ?_, e2⟩
      unfold L2.start
      rw [List.getElem?_append_left (by rw [List.length_map]; omega), List.getElem?_map, e1]
      rfl
    · rw [List.getElem?_append_right (by simpa using hi), List.getElem?_replicate] at e
      split at e <;> cases e
abbrev entry (kd : Bool) (q : D → Prop) (x : XD) : DEnds := ⟨fun _ => kd = false ∧ q .non, fun _ => False, fun _ => False, q, x⟩
/-- THE RULE for a def without the deck -/
theorem okN (F : FunD K x qual params body scope dvs [] f fd) (S : FnScope N ps scope) (hl : ∀ ds q x, fn ds q x → ds.length = ps.length)
    (hbody : ∀ (cdv : Value) (A : Around) (outer : List Env) (s : Shared) (H : Hp) (E : XK), Room k (A.deeper (envOfC qual scope s.heap.objs.size f cdv)) → (A.deeper (envOfC qual scope s.heap.objs.size f cdv)).guards = some [] →
      ∃ m' fb, DSs (cxOf CX0 P w K mg base N qual scope f cdv A outer s H E).nox none E kd [] [] m' body fb ∧ ∀ ds q x, fn ds q x → fb (startD N.length ds) (entry kd q x)) :
    FnG P w K mg base CX0 (k + 1) f fd ps (spN K kd fn) := by
  obtain ⟨oc, od, dV, kV, doc, pm, an, cdv, ct, osl, rfl, lk, hcd, _, _⟩ := F.ex
  refine fnG_of lk hcd S (fun vs H Q E ⟨F, ds, q, x, _, h, hf, _⟩ => by rw [h.length]; exact hl _ _ _ hf) fun A outer s H vs Q E hr hG ⟨F, ds, q, x, r, h, hf, hq, hx⟩ => ?_
  obtain ⟨m', fb, hd, hs⟩ := hbody cdv A outer s H E hr hG
  refine ⟨_, hd.nox, H, F, F, startD N.length ds, entry kd q x, start_rel r h, hs ds q x hf, fun σ' H' F' ρ' R _ hn => ?_, fun _ _ _ _ _ _ z => z.elim, fun _ _ _ _ _ _ z => z.elim, fun v H' F' d r2 i hd2 => hq v H' F' d r2 i hd2, hx⟩
  obtain ⟨rfl, hn⟩ := hn
  exact hq .non H' F' .non R.fr Is.non hn
/-- .. with the deck -/
theorem okG (F : FunD K x qual params body scope dvs [] f fd) (S : FnScope N ps scope) (hl : ∀ ds q x, fn ds q x → ds.length + 1 = ps.length)
    (hbody : ∀ (cdv : Value) (A : Around) (outer : List Env) (s : Shared) (H : Hp) (E : XK) (d l : Addr), Room k (A.deeper (envOfC qual scope s.heap.objs.size f cdv)) → (A.deeper (envOfC qual scope s.heap.objs.size f cdv)).guards = some [] →
      ∃ m' fb, DSs (cxOf CX0 P w K mg base N qual scope f cdv A outer s H E).nox (some (nm, d, l)) E kd [] [] m' body fb ∧ ∀ ds q x, fn ds q x → fb (startD N.length (.ref d :: ds)) (entry kd q x)) :
    FnG P w K mg base CX0 (k + 1) f fd ps (spG K nm kd fn) := by
  obtain ⟨oc, od, dV, kV, doc, pm, an, cdv, ct, osl, rfl, lk, hcd, _, _⟩ := F.ex
  refine fnG_of lk hcd S (fun vs H Q E ⟨d, l, F, ds, q, x, _, h, hf, _⟩ => by rw [h.length, List.length_cons]; exact hl _ _ _ hf) fun A outer s H vs Q E hr hG ⟨d, l, F, ds, q, x, r, h, hf, hq, hx⟩ => ?_
  obtain ⟨m', fb, hd, hs⟩ := hbody cdv A outer s H E d l hr hG
  refine ⟨_, hd.nox, H, F, F, startD N.length (.ref d :: ds), entry kd q x, start_rel r h, hs ds q x hf, fun σ' H' F' ρ' R _ hn => ?_, fun _ _ _ _ _ _ z => z.elim, fun _ _ _ _ _ _ z => z.elim, fun v H' F' d r2 i hd2 => hq v H' F' d r2 i hd2, hx⟩
  obtain ⟨rfl, hn⟩ := hn
  exact hq .non H' F' .non R.fr Is.non hn
end

/-! ### calls -/
def fCall (f : Fn) (dd : List D) (fs : FA) : FE := fun ρ q x => fs ρ (fun ds => f (ds ++ dd) q x) x
/-- the deck, then the arguments -/
def fCallG (f : Fn) (d : Addr) (fs : FA) : FE := fun ρ q x => fs ρ (fun ds => match ds with | .ref a :: r => a = d ∧ f r q x | _ => False) x
def fCallK (f : Fn) (n nk : Nat) (ix : List Nat) (fs fk : FA) : FE := fun ρ q x => fs ρ (fun ds => fk ρ (fun es => ds.length = n ∧ es.length = nk ∧ f (pick ix (ds ++ es)) q x) x) x
section
variable {X : Cx} {g : Gd} {E : XK} {m : List Nat} {CX : CXT} {k : Nat} {f : Addr} {fd : FuncData} {ps : List Str} {fn : Fn} {dvs : List V} {dd : List D} {dss : List Value} {x : Str} {p pos : Pos} {e : Expr} {es : List Expr} {fs fk : FA} {kws : List Keyword} {n : Nat} {ks : List Str} {ix : List Nat}
theorem XE.bare {K : PySem.W.Frag} {H F : Hp} {x : XD} {H0 F0 : Hp} (r : Fr g H0 F0 H F) (h : XE K g H F x E) : XE K (Option.none : Gd) H F x E := fun C dx H' F' v d q n e i hx => h C dx H' F' v d (r.lift q) n e i hx
theorem call_N {K : PySem.W.Frag} {t : TA} {σ : L2.St} {H : Hp} {Q : VK} (ht : t = tA K g E m fs) (hd : ∀ F, IsAll K F dvs dd) (h : tE K g E m (fCall fn dd fs) σ H Q) : tCall (spN K false fn) dvs E t σ H Q := by
  subst ht
  obtain ⟨H0, F0, F, ρ, q, x, R, hf, hq, hx⟩ := h
  refine ⟨H0, F0, F, ρ, _, x, R, hf, fun vs H1 F1 ds r1 i1 hs => ?_, hx⟩
  have R1 := R.step r1
  exact ⟨F1, ds ++ dd, q, x, R1.fr.bare, i1.append (hd F1), hs, fun v H' F' d r2 i2 hd2 => hq v H' F' d (r1.trans (R1.fr.lift r2)) i2 hd2, XE.bare R1.fr (hx.step r1)⟩
theorem call_NF {K : PySem.W.Frag} {t : TA} {σ : L2.St} {H : Hp} {Q : VK} (ht : t = tA K g E m fs) (hd : ∀ F, IsAll K F dvs dd) (h : tF K g E m (fCall fn dd fs) σ H Q) : tCall (spN K true fn) dvs E t σ H Q := by
  subst ht
  obtain ⟨H0, F0, F, ρ, q, x, R, hf, hq, hx⟩ := h
  refine ⟨H0, F0, F, ρ, _, x, R, hf, fun vs H1 F1 ds r1 i1 hs => ?_, hx⟩
  have R1 := R.step r1
  refine ⟨F1, ds ++ dd, q, x, R1.fr.bare, i1.append (hd F1), hs, fun v H' F' d r2 i2 hd2 => ?_, XE.bare R1.fr (hx.step r1)⟩
  obtain ⟨a, vs', xs, rfl, rfl, e1, e2, e3, e4⟩ := i2
  exact hq a H' F' vs' xs (r1.trans (R1.fr.lift r2)) (r1.back e4) e1 e3 e2 hd2
variable (hr : Room k X.A) (hG : X.A.guards = some []) (hg : Gl X x) (hm : X.mg x = some (.ref f)) (hk : PySem.W.keepIn X.K (.ref f) = true) (hx : Passes CX X E)
include hr hG hg hm hk hx
theorem de_call (F : FnG X.prog X.w X.K X.mg X.base CX k f fd ps (spN X.K false fn)) (hb : Binds X.K fd ps dss) (hd : Vals dvs dss) (hdd : ∀ F, IsAll X.K F dvs dd) (ha : DA X g E m (e :: es) fs)
    (hdb : (x == ("__debug__" : Str)) = false := by decide) (he : starEach (e :: es) X.env = (false, eval e X.env) :: starEach es X.env := by rfl) (hpl : (backTo pos (starEach es X.env)).any (·.1) = false := by rfl) :
    DE X g E m (.Call (.Name x p) (e :: es) [] pos) (fCall fn dd fs) := PEimp (pe_callG F hr hG hg hm hk hb hd hx ha hdb he hpl) fun σ H Q h => call_N rfl hdd h
theorem df_call (F : FnG X.prog X.w X.K X.mg X.base CX k f fd ps (spN X.K true fn)) (hb : Binds X.K fd ps dss) (hd : Vals dvs dss) (hdd : ∀ F, IsAll X.K F dvs dd) (ha : DA X g E m (e :: es) fs)
    (hdb : (x == ("__debug__" : Str)) = false := by decide) (he : starEach (e :: es) X.env = (false, eval e X.env) :: starEach es X.env := by rfl) (hpl : (backTo pos (starEach es X.env)).any (·.1) = false := by rfl) :
    DF X g E m (.Call (.Name x p) (e :: es) [] pos) (fCall fn dd fs) := PEimp (pe_callG F hr hG hg hm hk hb hd hx ha hdb he hpl) fun σ H Q h => call_NF rfl hdd h
/-- a call with the deck -/
theorem de_callG {nm : Str} {d l : Addr} (F : FnG X.prog X.w X.K X.mg X.base CX k f fd ps (spG X.K nm false fn)) (hb : Binds X.K fd ps []) (ha : DA X (some (nm, d, l)) E m (e :: es) fs)
    (hdb : (x == ("__debug__" : Str)) = false := by decide) (he : starEach (e :: es) X.env = (false, eval e X.env) :: starEach es X.env := by rfl) (hpl : (backTo pos (starEach es X.env)).any (·.1) = false := by rfl) :
    DE X (some (nm, d, l)) E m (.Call (.Name x p) (e :: es) [] pos) (fCallG fn d fs) := PEimp (pe_callG F hr hG hg hm hk hb .nil hx ha hdb he hpl) fun σ H Q h => by
  obtain ⟨H0, F0, F, ρ, q, x, R, hf, hq, hx⟩ := h
  refine ⟨H0, F0, F, ρ, _, x, R, hf, fun vs H1 F1 ds r1 i1 hs => ?_, hx⟩
  have R1 := R.step r1
  split at hs
  · obtain ⟨rfl, hs⟩ := hs
    show spG X.K nm false fn (vs ++ []) H1 Q E
    rw [List.append_nil]
    exact ⟨_, l, F1, _, q, x, R1.fr.self, i1, hs, fun v H' F' r r2 i2 hd2 => hq v H' F' r (r1.trans r2) i2 hd2, hx.step r1⟩
  · exact hs.elim
abbrev DK (X : Cx) (g : Gd) (E : XK) (m : List Nat) (kws : List Keyword) (f : FA) : Prop := PK X kws (tA X.K g E m f)
/-- a call with keywords -/
theorem de_callK (F : FnG X.prog X.w X.K X.mg X.base CX k f fd ps (spN X.K false fn)) (hb : KB X.K fd ps n ks ix) (ha : DA X g E m (e :: es) fs) (hkw : DK X g E m kws fk)
    (hall : (backToKw pos (keywordEach kws X.env)).all (·.1.isSome) = true := by rfl) (hks : (backToKw pos (keywordEach kws X.env)).filterMap (·.1) = ks := by rfl)
    (hdb : (x == ("__debug__" : Str)) = false := by decide) (he : starEach (e :: es) X.env = (false, eval e X.env) :: starEach es X.env := by rfl)
    (hpl : ((backTo pos (starEach (e :: es) X.env)).any (·.1) || (backToKw pos (keywordEach kws X.env)).any (·.1.isNone)) = false := by rfl) :
    DE X g E m (.Call (.Name x p) (e :: es) kws pos) (fCallK fn n ks.length ix fs fk) := PEimp (pe_callGK F hr hG hg hm hk hb hx ha hkw hall hks hdb he hpl) fun σ H Q ⟨H0, F0, F, ρ, q, x, R, hf, hq, hx⟩ => by
  refine ⟨H0, F0, F, ρ, _, x, R, hf, fun vs H1 F1 ds r1 i1 hs => ⟨H0, F0, F1, ρ, _, x, R.step r1, hs, fun zs H2 F2 ds2 r2 i2 hs2 => ?_, hx.step r1⟩, hx⟩
  have R2 := (R.step r1).step r2
  exact ⟨by rw [i1.length]; exact hs2.1, by rw [i2.length]; exact hs2.2.1, F2, _, q, x, R2.fr.bare, pick_all ((i1.up r2.f0).append i2) ix, hs2.2.2, fun v H' F' d r3 i3 hd => hq v H' F' d (r1.trans (r2.trans (R2.fr.lift r3))) i3 hd, XE.bare R2.fr ((hx.step r1).step r2)⟩
theorem de_callK0 (F : FnG X.prog X.w X.K X.mg X.base CX k f fd ps (spN X.K false fn)) (hb : KB X.K fd ps 0 ks ix) (hkw : DK X g E m kws fk)
    (hall : (backToKw pos (keywordEach kws X.env)).all (·.1.isSome) = true := by rfl) (hks : (backToKw pos (keywordEach kws X.env)).filterMap (·.1) = ks := by rfl)
    (hdb : (x == ("__debug__" : Str)) = false := by decide)
    (hpl : ((backTo pos (starEach [] X.env)).any (·.1) || (backToKw pos (keywordEach kws X.env)).any (·.1.isNone)) = false := by rfl) :
    DE X g E m (.Call (.Name x p) [] kws pos) (fCallK fn 0 ks.length ix fNil fk) := PEimp (pe_callGK0 F hr hG hg hm hk hb hx hkw hall hks hdb hpl) fun σ H Q ⟨H0, F0, F, ρ, q, x, R, hf, hq, hx⟩ => by
  refine ⟨H0, F0, F, ρ, _, x, R, hf, fun zs H2 F2 ds2 r2 i2 hs2 => ?_, hx⟩
  have R2 := R.step r2
  exact ⟨rfl, by rw [i2.length]; exact hs2.2.1, F2, _, q, x, R2.fr.bare, pick_all i2 ix, hs2.2.2, fun v H' F' d r3 i3 hd => hq v H' F' d (r2.trans (R2.fr.lift r3)) i3 hd, XE.bare R2.fr (hx.step r2)⟩
omit hr hG hg hm hk hx
theorem dk_nil : DK X g E m [] fNil := ⟨fun pos pins s σ H Q I ⟨H0, F0, F, ρ, q, x, R, hf, hq, hx⟩ => pk_nil.run pos pins s σ H Q I (hq [] H F [] R.fr.self .nil hf)⟩
theorem dk_cons {nmk : Option Str} {kpos : Pos} {fe : FE} (h : DE X g E m e fe) (hr : DK X g E m kws fs) : DK X g E m (⟨nmk, e, kpos⟩ :: kws) (fCons fe fs) :=
  ⟨fun pos pins s σ H Q I ⟨H0, F0, F, ρ, q, x, R, hf, hq, hx⟩ => (pk_cons h hr).run pos pins s σ H Q I
    ⟨H0, F0, F, ρ, _, x, R, hf, fun v H1 F1 d r1 i1 hd => ⟨H0, F0, F1, ρ, _, x, R.step r1, hd, fun vs H2 F2 ds r2 i2 h2 => hq _ H2 F2 _ (r1.trans r2) (.cons (i1.up r2.f0) i2) h2, hx.step r1⟩, hx⟩⟩
end
end DL

/-! DL6: the law's end; the deck; parallel stores; xs[::-1]. -/
namespace DL
open PySem PySem.Spec PyProof.Rows L2
/-! ### the end of a law -/
section
variable {P : Program} {w : World} {K : PySem.W.Frag} {mg mb : Str → Option Value}
/-- the script alone is tracked (where it is no object of the text) -/
def scr (K : PySem.W.Frag) (a : Addr) (vs : List Value) (ns : List Int) : Hp := fun b =>
  if b = a ∧ K.lookup a = none then some (.frz { cls := .type "list", data := .seq vs.toArray } (.lst (ns.map V.int))) else none
theorem scr_some {a b : Addr} {vs : List Value} {ns : List Int} {o : HO} (h : scr K a vs ns b = some o) : b = a ∧ K.lookup a = none ∧ o = .frz { cls := .type "list", data := .seq vs.toArray } (.lst (ns.map V.int)) := by
  unfold scr at h
  split at h
  · rename_i q
    exact ⟨q.1, q.2, (Option.some.inj h).symm⟩
  · cases h
theorem scr_off {a b : Addr} {vs : List Value} {ns : List Int} (h : b = a → K.lookup a ≠ none) : scr K a vs ns b = none := if_neg fun q => h q.1 q.2
theorem run_law {k : Nat} {fa a : Addr} {fd : FuncData} {x : Str} {sp : Sp} {s : Shared} {vs : List Value} {ns : List Int}
    (kin : K.In s.heap) (glob : s.heap.Ns mainGlobals mg) (blt : s.heap.Ns builtinsNs mb) (bb : ∀ x : Str, x ≠ "__name__" → mb x = bootBuiltins x) (lim : s.heap.NoLimit) (nog : s.gens = #[])
    (hs : s.heap.get? a = some { cls := .type "list", data := .seq vs.toArray }) (hi : IntsAre vs ns) (hl : ns.length ≤ sizeLine) (room : Room k callerA)
    (F : ∀ base : Heap, K.In base → base.Ns mainGlobals mg → FnG P w K mg base CX0 k fa fd [x] sp) (bind : ∀ (s : Shared) (u : Value), BindsTo s fd ⟨[u], []⟩ [(x, u)])
    (want : ∀ H : Hp, SqL K H a (ns.map V.int) → sp [.ref a] H (fun v _ => v = .bl true) fun _ _ _ => False) :
    codeAny (model P w) callerA (.call (.ref fa) ⟨[.ref a], []⟩) (fun r s' => r = .ok (.ret (.bool true)) ∧ OldK s.heap s'.heap ∧ s'.os = s.os ∧ AllBare s'.gens) s := by
  have vals := vals_ints hi
  have lens := vals.length
  rw [List.length_map] at lens
  have inK : ∀ b o, K.lookup b = some o → scr K a vs ns b = none := fun b o z => scr_off fun q => by rw [← q, z]; exact fun z => by cases z
  have dictless : ∀ b o es ep, s.heap.get? b = some o → o.data = .dict es ep → scr K a vs ns b = none := fun b o es ep h1 h2 => scr_off fun q => by
    rw [q, hs] at h1
    cases h1
    cases h2
  have reads : SqL K (scr K a vs ns) a (ns.map V.int) := by
    cases hk : K.lookup a with
    | none => exact .inl (.inr ⟨_, if_pos ⟨rfl, hk⟩⟩)
    | some o =>
      have := kin a o hk
      rw [hs] at this
      cases this
      exact .inr ⟨_, vs.toArray, _, hk, rfl, rfl, rfl, by rw [List.size_toArray]; omega, by simpa using vals⟩
  have held : HOk P w (scr K a vs ns) s.heap := fun b o z => by
    obtain ⟨rfl, _, rfl⟩ := scr_some z
    exact ⟨hs, by rw [List.length_map]; exact hl, vs, _, vals, hs⟩
  have under : ∀ {b : Addr} {m : Str → Option Value}, s.heap.Ns b m → (hidT s.heap (scr K a vs ns)).Ns b m := fun {b m} ⟨o, es, ep, h1, h2, h3⟩ => ⟨o, es, ep, hidT_get h1 (dictless b o es ep h1 h2), h2, h3⟩
  have kinB : K.In (hidT s.heap (scr K a vs ns)) := fun b o z => hidT_get (kin b o z) (inK b o z)
  have limB : (hidT s.heap (scr K a vs ns)).NoLimit := by
    obtain ⟨mc, h1, h2⟩ := lim
    exact ⟨mc, under h1, h2⟩
  have env0 : Env0 P w K mg (hidT s.heap (scr K a vs ns)) callerA [] s (scr K a vs ns) :=
    ⟨rfl, ⟨kinB, under glob, ⟨mb, under blt, bb⟩, limB⟩, fun _ _ z => of_hidT z, Nat.le_of_eq (hidT_size _ _), trivial, fun _ z => (nomatch z), held, .of_eq nog⟩
  refine codeAny_mono ((F _ kinB (under glob)).run callerA [] s _ ⟨[.ref a], []⟩ [.ref a] [.ref a] _ _ room rfl env0 (bind s (.ref a)) (.cons rfl .nil) (want _ reads)) fun r s' z => ?_
  match r, z with
  | .ok (.ret u), ⟨v, H', os, bare, un, ok', e, q⟩ =>
    have q : v = .bl true := q
    subst q
    obtain rfl : u = .bool true := e
    refine ⟨rfl, OldK.of_keep fun b o h1 => ?_, os, bare⟩
    cases hb : scr K a vs ns b with
    | none => exact un.keep b o h1 hb (fun z => nomatch z) (fun z => nomatch z)
    | some u =>
      obtain ⟨rfl, _, rfl⟩ := scr_some hb
      rw [hs] at h1
      cases h1
      exact (ok' b _ (un.frzs b _ _ hb)).1
theorem walk_law {l : PySem.W.OpenLaw} {n k : Nat} {q : Program} {loose : List Str} {XP : (Str → Option Value) → Heap → Prop} {YP : World → Heap → Prop} {d : DefRec} {K : Params → PySem.W.Frag} {sp : PySem.W.Frag → Sp} {x : Str}
    (hn : l.most = some n) (hn2 : n ≤ sizeLine) (hdf : d.params.defaults = []) (hr : Room k callerA)
    (hY : ∀ (w : World) (h : Heap), YP w h → (K w.params).In h)
    (F : ∀ (w : World) (mg : Str → Option Value) (fa : Addr) (h : Heap), (K w.params).In h → h.Ns mainGlobals mg → mg d.name = some (.ref fa) →
      ∃ fd : FuncData, (∀ (s : Shared) (u : Value), BindsTo s fd ⟨[u], []⟩ [(x, u)]) ∧
        ∀ base : Heap, (K w.params).In base → base.Ns mainGlobals mg → FnG l.prog w (K w.params) mg base CX0 k fa fd [x] (sp (K w.params)))
    (hsp : ∀ (K : PySem.W.Frag) (H : Hp) (a : Addr) (ns : List Int), ns.length ≤ n → (∀ z ∈ ns, Builtin.Int.intBits z ≤ 1048576) → SqL K H a (ns.map V.int) → sp K [.ref a] H (fun v _ => v = .bl true) fun _ _ _ => False) :
    PySem.W.WalkO q loose XP YP l.row.toRowW d [] (fun f vs => PySem.call f vs) := by
  refine Att.attach_callB hn hdf fun w s₀ s mg mb fa o pm cd doc a vs ns G Y _ _ _ hmg hobj hints hlen hbits hg => ?_
  have kin := hY w _ Y
  obtain ⟨fd, hb, hF⟩ := F w mg fa _ kin G.T.g hmg
  exact run_law kin G.T.g G.T.b G.T.builtins G.T.nolimit hg hobj hints (Nat.le_trans hlen hn2) hr hF hb fun H hS => hsp _ H a ns hlen hbits hS
end

/-! ### a def by its own words -/
section
variable {P : Program} {w : World} {K : PySem.W.Frag} {mg : Str → Option Value} {base : Heap} {f : Addr} {fd : FuncData} {N ps : List Str} {k : Nat} {qual x : Str} {params : Arguments} {body : List Stmt} {scope : Scope} {dvs : List V} {sp : Sp}
theorem okRaw (F : FunD K x qual params body scope dvs [] f fd) (S : FnScope N ps scope) (hl : ∀ vs H Q E, sp vs H Q E → vs.length = ps.length)
    (hbody : ∀ (cdv : Value) (A : Around) (outer : List Env) (s : Shared) (H : Hp) (vs : List V) (Q : VK) (E : XK), Room k (A.deeper (envOfC qual scope s.heap.objs.size f cdv)) → (A.deeper (envOfC qual scope s.heap.objs.size f cdv)).guards = some [] → sp vs H Q E →
      ∃ t, PSs (cxOf CX0 P w K mg base N qual scope f cdv A outer s H E).nox body t ∧ t { nx := fun _ H' => Q .non H', rt := Q } (L2.start N vs) H) :
    FnG P w K mg base CX0 (k + 1) f fd ps sp := by
  obtain ⟨oc, od, dV, kV, doc, pm, an, cdv, ct, osl, rfl, lk, hcd, _, _⟩ := F.ex
  refine fnG_of lk hcd S hl fun A outer s H vs Q E hr hG h => ?_
  obtain ⟨t, h1, h2⟩ := hbody cdv A outer s H vs Q E hr hG h
  exact ⟨t, h1.nox, h2⟩
end

/-! ### the deck -/
def dkL (nm : Str) (l : Addr) (mi dr : Int) : List (Key × V) := [(.inr nm, .ref l), (.inr "mixed", .int mi), (.inr "draws", .int dr)]
theorem md_ne0 : ¬ (("mixed" : Str) = "draws") := by decide +kernel
theorem dm_ne0 : ¬ (("draws" : Str) = "mixed") := by decide +kernel
theorem md_ne : ¬ ((Sum.inr ("mixed" : Str) : Key) = Sum.inr ("draws" : Str)) := fun z => absurd (Sum.inr.inj z) (by decide +kernel)
theorem dm_ne : ¬ ((Sum.inr ("draws" : Str) : Key) = Sum.inr ("mixed" : Str)) := fun z => md_ne z.symm
section
variable {nm : Str} {l : Addr} {mi dr : Int} (h1 : ¬ nm = "mixed") (h2 : ¬ nm = "draws")
theorem dk_l : valV (dkL nm l mi dr) (.inr nm) = some (.ref l) := valV_pos rfl
include h1 in
theorem dk_m : valV (dkL nm l mi dr) (.inr "mixed") = some (.int mi) := by
  unfold dkL
  rw [valV_neg (fun z => h1 (Sum.inr.inj z)), valV_pos rfl]
include h2 in
theorem dk_d : valV (dkL nm l mi dr) (.inr "draws") = some (.int dr) := by
  unfold dkL
  rw [valV_neg (fun z => h2 (Sum.inr.inj z)), valV_neg md_ne, valV_pos rfl]
include h2 in
theorem dk_pd {z : Int} : putK (dkL nm l mi dr) (.inr "draws") (.int z) = dkL nm l mi z := by
  have e1 : ¬ ((Sum.inr nm : Key) = Sum.inr ("draws" : Str)) := fun z => h2 (Sum.inr.inj z)
  simp [putK, dkL, e1, md_ne0]
include h1 in
theorem dk_pm {z : Int} : putK (dkL nm l mi dr) (.inr "mixed") (.int z) = dkL nm l z dr := by
  have e1 : ¬ ((Sum.inr nm : Key) = Sum.inr ("mixed" : Str)) := fun z => h1 (Sum.inr.inj z)
  simp [putK, dkL, e1, dm_ne0]
include h1 h2 in
theorem dk_merge : mergeK [] (dkL nm l mi dr) = dkL nm l mi dr := by
  have e1 : ¬ ((Sum.inr nm : Key) = Sum.inr ("mixed" : Str)) := fun z => h1 (Sum.inr.inj z)
  have e2 : ¬ ((Sum.inr nm : Key) = Sum.inr ("draws" : Str)) := fun z => h2 (Sum.inr.inj z)
  simp [mergeK, putK, dkL, e1, e2, md_ne0]
end
theorem DeckAt.of {nm : Str} {d l : Addr} {H : Hp} {cs : List Int} {mi dr : Int} (h1 : H d = some (.dK (dkL nm l mi dr))) (h2 : H l = some (.lst (cs.map V.int))) (h3 : cs.length ≤ 63) (h4 : -(2 ^ 40) < mi ∧ mi < 2 ^ 40) (h5 : d ≠ l) : DeckAt nm d l H :=
  ⟨cs, mi, dr, h1, h2, h3, h4, h5⟩
/-- the deck was changed, and the lists of this deed are dropped -/
theorem Fr.deck {nm : Str} {d l : Addr} {H F H' : Hp} (r : Fr (some (nm, d, l)) H F H F) (k : ∀ b o, b ≠ d → b ≠ l → H b = some o → H' b = some o) (j : DeckAt nm d l H') : Fr (some (nm, d, l)) H F H' F :=
  ⟨fun a o m h => k a o (fun z => m (.inl z)) (fun z => m (.inr z)) h, j, fun a o h => k a o (fun z => by
    have := (r.nm a (.inl z)).1
    rw [h] at this
    cases this) (fun z => by
    have := (r.nm a (.inr z)).1
    rw [h] at this
    cases this) (r.sub a o h), Ex.refl _, fun _ _ => rfl, fun a m => ⟨(r.nm a m).1, (r.nm a m).2⟩⟩
/-- the ints of a list as data of the library -/
theorem pints_lay : ∀ cs : List Int, PyData.canLayAll0 (cs.map PyData.int) = true
  | [] => rfl
  | c :: cs => by
    show (true && PyData.canLayAll0 (cs.map PyData.int)) = true
    rw [pints_lay cs] <;> rfl
theorem pints_dep : ∀ cs : List Int, PyData.depthAll (cs.map PyData.int) = 0
  | [] => rfl
  | c :: cs => by
    show max 0 (PyData.depthAll (cs.map PyData.int)) = 0
    rw [pints_dep cs] <;> rfl
theorem pints_dp {K : PySem.W.Frag} {H : Hp} : ∀ cs : List Int, DpAll K H (cs.map V.int) (cs.map PyData.int)
  | [] => .nil
  | c :: cs => .cons (.int c) (pints_dp cs)
theorem pints_shaped (cs : List Int) : SeqAt.shaped (.list (cs.map PyData.int)) = true := by
  unfold SeqAt.shaped
  show (PyData.canLayAll0 (cs.map PyData.int) && decide (PyData.depthAll (cs.map PyData.int) + 1 ≤ 64)) = true
  rw [pints_lay, pints_dep] <;> rfl
/-- what the deck's maker promises -/
def spDeck (K : PySem.W.Frag) (nm : Str) : Sp := fun vs H Q _ => ∃ (a : Addr) (ns : List Int), vs = [.ref a] ∧ SqL K H a (ns.map V.int) ∧ ns.length ≤ 63 ∧ ∀ H' d l, Ex H H' → H d = none → H l = none → DeckAt nm d l H' → Q (.ref d) H'
/-- a draw: any integer below many -/
def fnDraw : Fn := fun ds q _ => ∃ n : Int, ds = [.int n] ∧ 1 ≤ n ∧ n < 1073741824 ∧ ∀ r : Int, 0 ≤ r → r < n → q (.int r)

/-! ### a, b = x, y -/
def fPar2 (i j : Nat) (fs : FA) : FS := fun ρ d => fs ρ (fun ds => match ds with | [a, b] => i < ρ.length ∧ j < ρ.length ∧ d.nx ((ρ.set i (some a)).set j (some b)) | _ => False) d.x
def fPar3 (i j l : Nat) (fs : FA) : FS := fun ρ d => fs ρ (fun ds => match ds with | [a, b, c] => i < ρ.length ∧ j < ρ.length ∧ l < ρ.length ∧ d.nx (((ρ.set i (some a)).set j (some b)).set l (some c)) | _ => False) d.x
section
variable {X : Cx} {g : Gd} {E : XK} {kd : Bool} {mb m : List Nat} {a b c e : Expr} {fs : FA} {fe : FE} {pos : Pos}
theorem ds_par2 {i j : Nat} {x y : Str} {px py pt : Pos} {kt k2 pt2} (hc : X.calm = true) (hN : X.N.Nodup) (hi : X.N[i]? = some x) (hj : X.N[j]? = some y) (hx : X.env.scope.names.lookup x = some .local) (hy : X.env.scope.names.lookup y = some .local) (ha : DA X g E m [a, b] fs)
    (hw : swappedStores [.Tuple [.Name x px, .Name y py] kt pt] (.Tuple [a, b] k2 pt2) X.env = pure (some [x, y]) := by rfl) (hij : i ≠ j := by decide)
    (hs : swapsWithSole [.Tuple [.Name x px, .Name y py] kt pt] (.Tuple [a, b] k2 pt2) pos.line X.env = pure false := by rfl) :
    DS X g E kd mb m (del (del m i) j) (.Assign [.Tuple [.Name x px, .Name y py] kt pt] (.Tuple [a, b] k2 pt2) pos) (fPar2 i j fs) := PSimp (ps_par hc hN hi hj hij hx hy ha hw hs) fun D σ H ⟨H0, F0, F, ρ, d, R, hf, h1, h2, h3, h4, h5⟩ =>
  ⟨H0, F0, F, ρ, _, d.x, R, hf, fun vs H1 F1 ds r1 i1 hd => by
    split at hd
    · cases i1 with
      | cons p q =>
        cases q with
        | cons p' q' =>
          cases q'
          exact ⟨_, _, rfl, h1 _ H1 F1 _ (((R.step r1).set p hd.1).set p' (by rw [List.length_set]; exact hd.2.1)) r1.f0 hd.2.2⟩
    · exact hd.elim, h5.step R.fr⟩
theorem ds_par3 {i j l : Nat} {x y z : Str} {px py pz pt : Pos} {kt k2 pt2} (hc : X.calm = true) (hN : X.N.Nodup) (hi : X.N[i]? = some x) (hj : X.N[j]? = some y) (hl : X.N[l]? = some z) (hx : X.env.scope.names.lookup x = some .local) (hy : X.env.scope.names.lookup y = some .local) (hz : X.env.scope.names.lookup z = some .local) (ha : DA X g E m [a, b, c] fs)
    (hw : swappedStores [.Tuple [.Name x px, .Name y py, .Name z pz] kt pt] (.Tuple [a, b, c] k2 pt2) X.env = pure (some [x, y, z]) := by rfl) (hij : i ≠ j := by decide) (hil : i ≠ l := by decide) (hjl : j ≠ l := by decide)
    (hs : swapsWithSole [.Tuple [.Name x px, .Name y py, .Name z pz] kt pt] (.Tuple [a, b, c] k2 pt2) pos.line X.env = pure false := by rfl) :
    DS X g E kd mb m (del (del (del m i) j) l) (.Assign [.Tuple [.Name x px, .Name y py, .Name z pz] kt pt] (.Tuple [a, b, c] k2 pt2) pos) (fPar3 i j l fs) := PSimp (ps_par3 hc hN hi hj hl hij hil hjl hx hy hz ha hw hs) fun D σ H ⟨H0, F0, F, ρ, d, R, hf, h1, h2, h3, h4, h5⟩ =>
  ⟨H0, F0, F, ρ, _, d.x, R, hf, fun vs H1 F1 ds r1 i1 hd => by
    split at hd
    · cases i1 with
      | cons p q =>
        cases q with
        | cons p' q' =>
          cases q' with
          | cons p'' q'' =>
            cases q''
            exact ⟨_, _, _, rfl, h1 _ H1 F1 _ ((((R.step r1).set p hd.1).set p' (by rw [List.length_set]; exact hd.2.1)).set p'' (by rw [List.length_set, List.length_set]; exact hd.2.2.1)) r1.f0 hd.2.2.2⟩
    · exact hd.elim, h5.step R.fr⟩
/-- xs[::-1] of a list: a new one -/
def sRev : D → (D → Prop) → XD → Prop := fun a q _ => match a with | .lst xs => q (.lst xs.reverse) | _ => False
theorem df_rev {k : Nat} {p1 p2 p3 : Pos} (h : DB X g E m e fe) : DF X g E m (.Subscript e (.Slice none none (some (.UnaryOp .USub (.Constant (.int 1) k p1) p2)) p3) pos) (f1 sRev fe) :=
  df_1 (r := fun v H Q => ∃ a xs, v = .ref a ∧ SqL X.K H a xs ∧ ∀ p, H p = none → Q (.ref p) (upd H p (.lst xs.reverse))) (pe_revL h) fun g E H F v a q x Q r ia hs hq hx => by
  unfold sRev at hs
  split at hs
  · obtain ⟨p, ys, rfl, h1, h2⟩ := ia.lst' r.sub
    exact ⟨_, _, rfl, h1, fun l hl => hq l _ F _ _ (r.newO hl) hl upd_same (r.freeF hl) h2.reverse hs⟩
  · exact hs.elim
end
end DL

/-! DL7: short names; a def as it is called; readings of the deck's two defs. -/
namespace DL
open PySem PySem.Spec PyProof.Rows L2
/-! ### short names -/
abbrev Sem2T := D → D → (D → Prop) → XD → Prop
abbrev Sem1T := D → (D → Prop) → XD → Prop
abbrev sSub : Sem2T := sI0 fun i j => .int (i - j)
abbrev sMul : Sem2T := sI IntMulOk fun i j => .int (i * j)
abbrev sDiv : Sem2T := sI DivOk fun i j => .int (i.fdiv j)
abbrev sMod : Sem2T := sI (fun _ j => j ≠ 0) fun i j => .int (i.fmod j)
abbrev sPow : Sem2T := sI CPow fun i j => .int (i ^ j.toNat)
abbrev sMax2 : Sem2T := sI0 fun i j => .int (if j > i then j else i)
abbrev sMin2 : Sem2T := sI0 fun i j => .int (if j < i then j else i)
abbrev sGcd : Sem2T := sI0 fun i j => .int (gcdI i j)
abbrev sReprT : Sem1T := fun a q x => (match a with | .tup _ => True | .lst _ => True | _ => False) ∧ sRepr a q x
abbrev tyNames : List String := ["NoneType", "bool", "int", "str", "tuple", "list", "dict"]
theorem isi_int : ∀ t ∈ tyNames, kitB t "int" = some (isTy "int" t) := by decide +kernel
theorem isi_bool : ∀ t ∈ tyNames, kitB t "bool" = some (isTy "bool" t) := by decide +kernel
theorem isi_tuple : ∀ t ∈ tyNames, kitB t "tuple" = some (isTy "tuple" t) := by decide +kernel
theorem isi_list : ∀ t ∈ tyNames, kitB t "list" = some (isTy "list" t) := by decide +kernel
theorem isi_str : ∀ t ∈ tyNames, kitB t "str" = some (isTy "str" t) := by decide +kernel
theorem hu65 {A : Around} {k : Nat} (hr : Room k A) : A.units + 65 < cLine := by have := hr.un; omega
/-- a module's constant, told by the head -/
def Con (K : PySem.W.Frag) (mg : Str → Option Value) (x : Str) (d : D) : Prop := ∃ v u, mg x = some u ∧ RelV v u ∧ ∀ F, Is K F v d
theorem de_con {X : Cx} {g : Gd} {E : XK} {m : List Nat} {x : Str} {d : D} {pos : Pos} (hg : Gl X x) (c : Con X.K X.mg x d) (hd : (x == ("__debug__" : Str)) = false := by decide) : DE X g E m (.Name x pos) (fK d) := by
  obtain ⟨v, u, h1, h2, h3⟩ := c
  exact de_glob hg h1 h2 h3 hd
/-! ### a def as it is called -/
/-- bs: the defaults that fill up a positional call; kbs: the keyword calls -/
structure Cal (P : Program) (w : World) (K : PySem.W.Frag) (mg : Str → Option Value) (base : Heap) (k : Nat) (x : Str) (ps : List Str) (sp : Sp) (bs : List (List D)) (kbs : List (Nat × List Str × List Nat)) : Prop where
  ex : ∃ (f : Addr) (fd : FuncData), FnG P w K mg base CX0 k f fd ps sp ∧ mg x = some (.ref f) ∧ PySem.W.keepIn K (.ref f) = true ∧
    (∀ dd ∈ bs, ∃ (dvs : List V) (dss : List Value), Binds K fd ps dss ∧ Vals dvs dss ∧ ∀ F, IsAll K F dvs dd) ∧ ∀ t ∈ kbs, KB K fd ps t.1 t.2.1 t.2.2
section
variable {X : Cx} {g : Gd} {E : XK} {m : List Nat} {j k : Nat} {ps : List Str} {fn : Fn} {dd : List D} {x : Str} {p pos : Pos} {e : Expr} {es : List Expr} {fs fk : FA} {kws : List Keyword} {bs : List (List D)} {kbs : List (Nat × List Str × List Nat)}
theorem cal_N (C : Cal X.prog X.w X.K X.mg X.base j x ps (spN X.K false fn) bs kbs) (hr : Room k X.A) (hG : X.A.guards = some []) (hg : Gl X x) (i : Nat) (ha : DA X g E m (e :: es) fs) (hb : bs[i]? = some dd := by rfl) (hj : j ≤ k := by decide)
    (hdb : (x == ("__debug__" : Str)) = false := by decide) (he : starEach (e :: es) X.env = (false, eval e X.env) :: starEach es X.env := by rfl) (hpl : (backTo pos (starEach es X.env)).any (·.1) = false := by rfl) :
    DE X g E m (.Call (.Name x p) (e :: es) [] pos) (fCall fn dd fs) := by
  obtain ⟨f, fd, h1, h2, h3, h4, _⟩ := C.ex
  obtain ⟨dvs, dss, b1, b2, b3⟩ := h4 dd (List.mem_of_getElem? hb)
  exact de_call (hr.mono hj) hG hg h2 h3 passN h1 b1 b2 b3 ha hdb he hpl
theorem cal_F (C : Cal X.prog X.w X.K X.mg X.base j x ps (spN X.K true fn) bs kbs) (hr : Room k X.A) (hG : X.A.guards = some []) (hg : Gl X x) (i : Nat) (ha : DA X g E m (e :: es) fs) (hb : bs[i]? = some dd := by rfl) (hj : j ≤ k := by decide)
    (hdb : (x == ("__debug__" : Str)) = false := by decide) (he : starEach (e :: es) X.env = (false, eval e X.env) :: starEach es X.env := by rfl) (hpl : (backTo pos (starEach es X.env)).any (·.1) = false := by rfl) :
    DF X g E m (.Call (.Name x p) (e :: es) [] pos) (fCall fn dd fs) := by
  obtain ⟨f, fd, h1, h2, h3, h4, _⟩ := C.ex
  obtain ⟨dvs, dss, b1, b2, b3⟩ := h4 dd (List.mem_of_getElem? hb)
  exact df_call (hr.mono hj) hG hg h2 h3 passN h1 b1 b2 b3 ha hdb he hpl
theorem cal_G {nm : Str} {d l : Addr} (C : Cal X.prog X.w X.K X.mg X.base j x ps (spG X.K nm false fn) [[]] kbs) (hr : Room k X.A) (hG : X.A.guards = some []) (hg : Gl X x) (ha : DA X (some (nm, d, l)) E m (e :: es) fs) (hj : j ≤ k := by decide)
    (hdb : (x == ("__debug__" : Str)) = false := by decide) (he : starEach (e :: es) X.env = (false, eval e X.env) :: starEach es X.env := by rfl) (hpl : (backTo pos (starEach es X.env)).any (·.1) = false := by rfl) :
    DE X (some (nm, d, l)) E m (.Call (.Name x p) (e :: es) [] pos) (fCallG fn d fs) := by
  obtain ⟨f, fd, h1, h2, h3, h4, _⟩ := C.ex
  obtain ⟨dvs, dss, b1, b2, b3⟩ := h4 [] (List.mem_cons_self ..)
  have e1 := b3 fun _ => none
  cases dvs with
  | cons v vs => cases e1
  | nil =>
    cases b2
    exact de_callG (hr.mono hj) hG hg h2 h3 passN h1 b1 ha hdb he hpl
theorem cal_K (C : Cal X.prog X.w X.K X.mg X.base j x ps (spN X.K false fn) bs kbs) (hr : Room k X.A) (hG : X.A.guards = some []) (hg : Gl X x) (i n : Nat) (ks : List Str) (ix : List Nat) (ha : DA X g E m (e :: es) fs) (hkw : DK X g E m kws fk) (hb : kbs[i]? = some (n, ks, ix) := by rfl) (hj : j ≤ k := by decide)
    (hall : (backToKw pos (keywordEach kws X.env)).all (·.1.isSome) = true := by rfl) (hks : (backToKw pos (keywordEach kws X.env)).filterMap (·.1) = ks := by rfl)
    (hdb : (x == ("__debug__" : Str)) = false := by decide) (he : starEach (e :: es) X.env = (false, eval e X.env) :: starEach es X.env := by rfl)
    (hpl : ((backTo pos (starEach (e :: es) X.env)).any (·.1) || (backToKw pos (keywordEach kws X.env)).any (·.1.isNone)) = false := by rfl) :
    DE X g E m (.Call (.Name x p) (e :: es) kws pos) (fCallK fn n ks.length ix fs fk) := by
  obtain ⟨f, fd, h1, h2, h3, _, h5⟩ := C.ex
  exact de_callK (hr.mono hj) hG hg h2 h3 passN h1 (h5 _ (List.mem_of_getElem? hb)) ha hkw hall hks hdb he hpl
theorem cal_K0 (C : Cal X.prog X.w X.K X.mg X.base j x ps (spN X.K false fn) bs kbs) (hr : Room k X.A) (hG : X.A.guards = some []) (hg : Gl X x) (i : Nat) (ks : List Str) (ix : List Nat) (hkw : DK X g E m kws fk) (hb : kbs[i]? = some (0, ks, ix) := by rfl) (hj : j ≤ k := by decide)
    (hall : (backToKw pos (keywordEach kws X.env)).all (·.1.isSome) = true := by rfl) (hks : (backToKw pos (keywordEach kws X.env)).filterMap (·.1) = ks := by rfl)
    (hdb : (x == ("__debug__" : Str)) = false := by decide)
    (hpl : ((backTo pos (starEach [] X.env)).any (·.1) || (backToKw pos (keywordEach kws X.env)).any (·.1.isNone)) = false := by rfl) :
    DE X g E m (.Call (.Name x p) [] kws pos) (fCallK fn 0 ks.length ix fNil fk) := by
  obtain ⟨f, fd, h1, h2, h3, _, h5⟩ := C.ex
  exact de_callK0 (hr.mono hj) hG hg h2 h3 passN h1 (h5 _ (List.mem_of_getElem? hb)) hkw hall hks hdb hpl
end
section
variable {P : Program} {w : World} {K : PySem.W.Frag} {mg : Str → Option Value} {base : Heap} {x qual : Str} {params : Arguments} {body : List Stmt} {scope : Scope} {dvs : List V} {kws : List (Str × V)} {f : Addr} {fd : FuncData} {ps ks : List Str} {n : Nat} {ix : List Nat} {dd : List D}
/-- a keyword call binds (no defaults) -/
theorem kb_of (F : FunD K x qual params body scope [] kws f fd)
    (h : ∀ (kV doc pm : Value) (an : Option Addr) (cdv ct : Value) (us ws : List Value), us.length = n → ws.length = ks.length → bindArgs (PySem.W.fnOf x qual params body scope .none kV doc pm an cdv ct) ⟨us, ks.zip ws⟩ = pure (ps.zip (pick ix (us ++ ws)))) : KB K fd ps n ks ix := by
  obtain ⟨oc, od, dV, kV, doc, pm, an, cdv, ct, osl, rfl, lk, hcd, hD, hK⟩ := F.ex
  rcases hD with ⟨_, rfl⟩ | ⟨e, _⟩
  · exact fun s us ws _ h1 h2 => .of_eq (h kV doc pm an cdv ct us ws h1 h2)
  · exact absurd rfl e
theorem bs_0 (b : Binds K fd ps []) : ∃ (dvs : List V) (dss : List Value), Binds K fd ps dss ∧ Vals dvs dss ∧ ∀ F, IsAll K F dvs [] := ⟨[], [], b, .nil, fun _ => .nil⟩
theorem bs_1 (b : ∃ ds, Vals dvs ds ∧ Binds K fd ps ds) (h : ∀ F, IsAll K F dvs dd) : ∃ (dvs : List V) (dss : List Value), Binds K fd ps dss ∧ Vals dvs dss ∧ ∀ F, IsAll K F dvs dd := by
  obtain ⟨ds, h1, h2⟩ := b
  exact ⟨dvs, ds, h2, h1, h⟩
theorem all_0 {α : Type} {p : α → Prop} : ∀ a ∈ ([] : List α), p a := fun _ h => by cases h
theorem all_1 {α : Type} {p : α → Prop} {a : α} {l : List α} (h : p a) (r : ∀ b ∈ l, p b) : ∀ b ∈ a :: l, p b := fun b hb => by
  rcases List.mem_cons.mp hb with e | hb
  · rw [e]; exact h
  · exact r b hb
end
/-! ### a meaning behind a lock: nothing unfolds it, only its equation -/
theorem lock_ex (f : Fn) : ∃ g : Fn, g = f := ⟨f, rfl⟩
noncomputable def lock (f : Fn) : Fn := Classical.choose (lock_ex f)
theorem lock_eq (f : Fn) : lock f = f := Classical.choose_spec (lock_ex f)
theorem lock_at (f : Fn) (ds : List D) (q : D → Prop) (x : XD) : lock f ds q x = f ds q x := by rw [lock_eq]
/-! ### the law -/
abbrev lawStart (n : Nat) (a d : Addr) : Ro := some (.ref a) :: some (.ref d) :: List.replicate (n - 2) none
abbrev lawEnds : DEnds := ⟨fun _ => False, fun _ => False, fun _ => False, fun r => r = .bl true, fun _ _ => False⟩
def spLaw (K : PySem.W.Frag) : Sp := fun vs H Q _ => ∃ (a : Addr) (ns : List Int), vs = [.ref a] ∧ SqL K H a (ns.map V.int) ∧ ns.length ≤ 63 ∧ ∀ H', Q (.bl true) H'
section
variable {P : Program} {w : World} {K : PySem.W.Frag} {mg : Str → Option Value} {base : Heap} {x qual nm y : Str} {params : Arguments} {body0 body : List Stmt} {scope : Scope} {f : Addr} {fd : FuncData} {N : List Str} {k : Nat} {st0 : Stmt}
/-- the law: its first statement makes the deck (slot 1), the rest stands over data -/
theorem okLaw (F : FunD K x qual params body0 scope [] [] f fd) (S : FnScope N ["script"] scope) (hb : body0 = st0 :: body) (hN : 2 ≤ N.length)
    (h0 : ∀ (cdv : Value) (A : Around) (outer : List Env) (s : Shared) (H : Hp) (E : XK), Room k (A.deeper (envOfC qual scope s.heap.objs.size f cdv)) → (A.deeper (envOfC qual scope s.heap.objs.size f cdv)).guards = some [] →
      PS (cxOf CX0 P w K mg base N qual scope f cdv A outer s H E).nox st0 (tAsg (tCall (spDeck K nm) [] E (tCons (tVar 0) tNil)) (gName 1)))
    (hbody : ∀ (cdv : Value) (A : Around) (outer : List Env) (s : Shared) (H : Hp) (E : XK) (a d l : Addr), Room k (A.deeper (envOfC qual scope s.heap.objs.size f cdv)) → (A.deeper (envOfC qual scope s.heap.objs.size f cdv)).guards = some [] →
      ∃ m' fb, DSs (cxOf CX0 P w K mg base N qual scope f cdv A outer s H E).nox (some (nm, d, l)) E false [] [] m' body fb ∧ fb (lawStart N.length a d) lawEnds) :
    FnG P w K mg base CX0 (k + 1) f fd ["script"] (spLaw K) := by
  subst hb
  refine okRaw F S (fun vs H Q E ⟨a, ns, h, _⟩ => by rw [h]; rfl) fun cdv A outer s H vs Q E hr hG ⟨a, ns, hv, hS, hl, hq⟩ => ?_
  subst hv
  have hb2 := fun a d l => hbody cdv A outer s H E a d l hr hG
  let t2 : TS := fun D σ H1 => ∃ (d l : Addr) (m' : List Nat) (fb : FS), DSs (cxOf CX0 P w K mg base N qual scope f cdv A outer s H E).nox (some (nm, d, l)) E false [] [] m' body fb ∧ tS K (some (nm, d, l)) E false [] [] m' fb D σ H1
  refine ⟨tSeq (tAsg (tCall (spDeck K nm) [] E (tCons (tVar 0) tNil)) (gName 1)) t2, PSs.nox (pss_cons (h0 cdv A outer s H E hr hG) ⟨fun pins s' σ H' D I q => ?_⟩), ?_⟩
  · obtain ⟨d, l, m', fb, h1, h2⟩ := q
    exact h1.run pins s' σ H' D I h2
  · have hs : L2.start N [V.ref a] = some (.ref a) :: List.replicate (N.length - 1) none := rfl
    refine ⟨.ref a, by rw [hs]; rfl, a, ns, rfl, hS, hl, fun H' d l ex nd nl j => ?_⟩
    obtain ⟨m', fb, h1, h2⟩ := hb2 a d l
    refine ⟨d, l, m', fb, h1, H', fun _ => none, fun _ => none, lawStart N.length a d, lawEnds, ⟨⟨fun _ _ _ e => e, j, fun _ _ e => (nomatch e), Ex.refl _, fun _ _ => rfl, fun b hb => ⟨rfl, Gd.J.has (g := some (nm, d, l)) j hb⟩⟩, ?_, ?_, fun _ => 0, fun i hi => (by cases hi), fun i hi => (by cases hi)⟩, h2, fun _ _ _ _ _ _ z => z.elim, fun _ _ _ _ _ _ z => z.elim, fun _ _ _ _ _ _ z => z.elim, ?_, XE.none⟩
    · rw [hs, List.length_set, List.length_cons, List.length_cons, List.length_cons, List.length_replicate, List.length_replicate]
      omega
    · intro i b hi _
      match i, hi with
      | 0, hi => cases hi; exact ⟨.ref a, by rw [hs]; rfl, .ref a⟩
      | 1, hi =>
        cases hi
        exact ⟨.ref d, List.getElem?_set_self (by rw [hs, List.length_cons, List.length_replicate]; omega), .ref d⟩
      | i + 2, hi =>
        have : (List.replicate (N.length - 2) (none : Option D))[i]? = some (some b) := hi
        rw [List.getElem?_replicate] at this
        split at this <;> cases this
    · intro v H2 F2 r _ hi hr
      have hr : r = .bl true := hr
      subst hr
      have hi : Is K F2 v (.bl true) := hi
      cases hi
      exact hq H2
end
/-! ### the deck's numbers -/
theorem fmod_small (i : Int) {j : Int} (h : 0 < j) (h2 : j < 2 ^ 40) : -(2 ^ 40) < i.fmod j ∧ i.fmod j < 2 ^ 40 := by
  have h3 := Int.fmod_lt_of_pos i h
  have h4 := Int.fmod_nonneg_of_pos i h
  exact ⟨by omega, by omega⟩
theorem cut_ints (ns : List Int) (h : ns.length ≤ 63) : ∃ cs : List Int, cutV (ns.map V.int) none (some 63) = cs.map V.int ∧ cs.length ≤ 63 :=
  ⟨_, by unfold cutV; rw [← List.map_drop, ← List.map_take], by rw [List.length_take, List.length_drop]; omega⟩
theorem dgetK {H : Hp} {d : Addr} {kvs : List (Key × V)} {k : Key} {v : V} (e : H d = some (.dK kvs)) (h : valV kvs k = some v) : DGet H d (kV k) (some v) := h ▸ DGet.k e
theorem dputK {H : Hp} {d : Addr} {kvs kvs' : List (Key × V)} {k : Key} {v : V} (e : H d = some (.dK kvs)) (hl : kvs.length < sizeLine) (h : putK kvs k v = kvs') : DPut H d (kV k) v (upd H d (.dK kvs')) := h ▸ DPut.k e hl
theorem snoc_cases (l : List Int) : l = [] ∨ ∃ cs c, l = cs ++ [c] := by
  rcases List.eq_nil_or_concat l with h | ⟨cs, c, h⟩
  · exact .inl h
  · exact .inr ⟨cs, c, by rw [h, List.concat_eq_append]⟩
abbrev rModN : R2 := rI (fun _ j => j ≠ 0) fun i j => .int (i.fmod j)
abbrev rMulO : R2 := rI IntMulOk fun i j => .int (i * j)
abbrev rAddI : R2 := rI0 fun i j => .int (i + j)
abbrev rDivO : R2 := rI DivOk fun i j => .int (i.fdiv j)
abbrev rInt1 : List V → Hp → VK → Prop := fun xs H Q => (∃ i, xs = [.int i] ∧ Q (.int i) H) ∨ ∃ k, xs = [.bl k] ∧ Q (.int (if k then 1 else 0)) H
end DL

/-! DL8: a law's head by facts. -/
namespace DL
open PySem PySem.Spec PyProof.Rows L2
/-! ### what the head tells -/
abbrev AlC : Type := He.AlD × Bool
def obsC (n : Nat) (fa : List He.Fa) (fn : List He.DefD) (ex : PySem.W.Frag → Bool) (g : Addr → Option Obj) : AlC := (He.obsD fa fn (He.frG g (He.asD g n)), ex (He.frG g (He.asD g n)))
def valC (fn : List He.DefD) : AlC := (He.valD fn, true)
def hookC (n : Nat) (fa : List He.Fa) (fn : List He.DefD) (ex : PySem.W.Frag → Bool) : PySem.W.Hook where
  α := AlC
  obs := fun s => obsC n fa fn ex s.heap.get?
  val := fun _ => valC fn
  says := fun _ h => ∃ K : PySem.W.Frag, K.In h ∧ He.SaysD fa fn K ∧ ex K = true
  of := fun _ _ e => ⟨_, He.frG_in, congrArg (fun z : AlC => z.1) e, congrArg (fun z : AlC => z.2) e⟩
  keeps := fun _ _ _ ⟨K, hK, c⟩ k => ⟨K, PySem.W.Frag.In.keeps hK k, c⟩
theorem obsC_eq {n : Nat} {fa : List He.Fa} {fn : List He.DefD} {ex : PySem.W.Frag → Bool} {g : Addr → Option Obj} {s : Shared} (h : ∀ a, g a = s.heap.get? a) : obsC n fa fn ex g = (hookC n fa fn ex).obs s := by
  obtain rfl : g = s.heap.get? := funext h
  rfl
/-- the module's name x is this plain constant -/
def conB (K : PySem.W.Frag) (x : Str) (d : He.Dv) : Bool := match PySem.W.nsIn K mainGlobals x with
  | some (some u) => He.relB (d.v K) u
  | _ => false
def bltB (K : PySem.W.Frag) (x : Str) (n : String) : Bool := match PySem.W.nsIn K mainGlobals x with
  | some (some (.builtin m)) => decide (m = n)
  | _ => false
section
variable {K : PySem.W.Frag} {h : Heap} {mg : Str → Option Value} {x : Str}
theorem conB_ok (X : K.In h) (G : h.Ns mainGlobals mg) {d : He.Dv} {dd : D} (c : conB K x d = true) (hd : ∀ F, Is K F (d.v K) dd) : Con K mg x dd := by
  unfold conB at c
  split at c
  · rename_i u e
    exact ⟨_, u, PySem.W.mg_of X G e, He.relB_ok c, hd⟩
  · cases c
theorem bltB_ok (X : K.In h) (G : h.Ns mainGlobals mg) {n : String} (c : bltB K x n = true) : mg x = some (.builtin n) := by
  unfold bltB at c
  split at c
  · rename_i m e
    rw [← of_decide_eq_true c]
    exact PySem.W.mg_of X G e
  · cases c
theorem bltM {a b : Bool} (h : (a && b) = true) : a = true ∧ b = true := Bool.and_eq_true_iff.mp h
end
theorem walk_facts {l : PySem.W.OpenLaw} {n k : Nat} {q : Program} {loose : List Str} {XP : (Str → Option Value) → Heap → Prop} {YP : World → Heap → Prop} {d : DefRec} {x : Str}
    (hn : l.most = some n) (hn2 : n ≤ 63) (hdf : d.params.defaults = []) (hr : Room k callerA)
    (F : ∀ (w : World) (mg : Str → Option Value) (fa : Addr) (h : Heap), YP w h → h.Ns mainGlobals mg → mg d.name = some (.ref fa) →
      ∃ (K : PySem.W.Frag) (fd : FuncData), K.In h ∧ (∀ (s : Shared) (u : Value), BindsTo s fd ⟨[u], []⟩ [(x, u)]) ∧
        ∀ base : Heap, K.In base → base.Ns mainGlobals mg → FnG l.prog w K mg base CX0 k fa fd [x] (spLaw K)) :
    PySem.W.WalkO q loose XP YP l.row.toRowW d [] (fun f vs => PySem.call f vs) := by
  refine Att.attach_callB hn hdf fun w s₀ s mg mb fa o pm cd doc a vs ns G Y _ _ _ hmg hobj hints hlen hbits hg => ?_
  obtain ⟨K, fd, kin, hb, hF⟩ := F w mg fa _ Y G.T.g hmg
  exact run_law kin G.T.g G.T.b G.T.builtins G.T.nolimit hg hobj hints (Nat.le_trans hlen (Nat.le_trans hn2 (by decide))) hr hF hb fun H hS => ⟨a, ns, rfl, hS, Nat.le_trans hlen hn2, fun _ => rfl⟩
end DL

/-! DL9: for the plain laws: loops by an invariant, == of data, numbers. -/
namespace DL
open PySem PySem.Spec PyProof.Rows L2
theorem forL_inv {t : FG} {b : FS} {d : DEnds} (I : List D → Ro → Prop) (h0 : ∀ ρ, I [] ρ → d.nx ρ)
    (h1 : ∀ a r ρ, I (a :: r) ρ → ∀ nx : Ro → Prop, (∀ ρ', I r ρ' → nx ρ') → t a ρ fun ρ1 => b ρ1 { d with nx := nx, ct := nx, bk := d.nx }) : ∀ (l : List D) (ρ : Ro), I l ρ → forL t b d l ρ
  | [], ρ, h => h0 ρ h
  | a :: r, ρ, h => h1 a r ρ h _ fun ρ' h' => forL_inv I h0 h1 r ρ' h'
theorem rangeD_len (lo : Int) (n : Nat) : (rangeD lo n).length = n := by simp [rangeD]
theorem isTy_int_int : isTy "int" "int" = true := by decide +kernel
theorem isTy_bool_int : isTy "bool" "int" = false := by decide +kernel
theorem isTy_bool_bool : isTy "bool" "bool" = true := by decide +kernel
theorem isTy_int_bool : isTy "int" "bool" = true := by decide +kernel
theorem isTy_tuple_tuple : isTy "tuple" "tuple" = true := by decide +kernel
theorem isTy_tuple_list : isTy "tuple" "list" = false := by decide +kernel
theorem isTy_tuple_int : isTy "tuple" "int" = false := by decide +kernel
theorem isTy_list_list : isTy "list" "list" = true := by decide +kernel
theorem isTy_int_tuple : isTy "int" "tuple" = false := by decide +kernel
theorem isTy_int_str : isTy "int" "str" = false := by decide +kernel
theorem isTy_str_str : isTy "str" "str" = true := by decide +kernel
abbrev pr (a b : Int) : D := .tup [.int a, .int b]
theorem eqD_int (a b : Int) : eqD (.int a) (.int b) = decide (a = b) := rfl
theorem eqD_str (a b : Str) : eqD (.str a) (.str b) = decide (a = b) := by
  show (a == b) = decide (a = b)
  rw [Bool.beq_eq_decide_eq]
theorem eqD_tup (xs ys : List D) : eqD (.tup xs) (.tup ys) = PyData.eqvAll (D.pys xs) (D.pys ys) := rfl
theorem eqD_lst (xs ys : List D) : eqD (.lst xs) (.lst ys) = PyData.eqvAll (D.pys xs) (D.pys ys) := rfl
theorem eqvs_nil : PyData.eqvAll (D.pys []) (D.pys []) = true := rfl
theorem eqvs_cons (x y : D) (xs ys : List D) : PyData.eqvAll (D.pys (x :: xs)) (D.pys (y :: ys)) = (eqD x y && PyData.eqvAll (D.pys xs) (D.pys ys)) := rfl
theorem eqD_pr (a b c d : Int) : eqD (pr a b) (pr c d) = decide (a = c ∧ b = d) := by
  rw [eqD_tup, eqvs_cons, eqvs_cons, eqvs_nil, eqD_int, eqD_int, Bool.and_true]
  by_cases h : a = c <;> by_cases h2 : b = d <;> simp [h, h2]
mutual
theorem eqD_self : ∀ d : D, d.ok = true → eqD d d = true
  | .non, _ => rfl
  | .bl b, _ => by show (b == b) = true; exact beq_self_eq_true b
  | .int i, _ => by rw [eqD_int]; exact decide_eq_true rfl
  | .str s, _ => by rw [eqD_str]; exact decide_eq_true rfl
  | .tup xs, h => by rw [eqD_tup]; exact eqvs_self xs h
  | .lst xs, h => by rw [eqD_lst]; exact eqvs_self xs h
  | .ref _, _ => rfl
  | .dic _ _, h => by cases h
theorem eqvs_self : ∀ xs : List D, D.oks xs = true → PyData.eqvAll (D.pys xs) (D.pys xs) = true
  | [], _ => rfl
  | x :: xs, h => by
    have h' : (D.ok x && D.oks xs) = true := h
    rw [Bool.and_eq_true] at h'
    rw [eqvs_cons, eqD_self x h'.1, eqvs_self xs h'.2] <;> rfl
end
theorem mulOk_l {a b : Int} (h1 : -18446744073709551616 < a) (h2 : a < 18446744073709551616) : IntMulOk a b := IntMulOk.of_left (intBits_le_64 (by omega) (by omega))
theorem mulOk_r {a b : Int} (h1 : -18446744073709551616 < b) (h2 : b < 18446744073709551616) : IntMulOk a b := IntMulOk.of_right (intBits_le_64 (by omega) (by omega))
theorem divOk_s {a b : Int} (h0 : b ≠ 0) (h1 : -1073741824 < b) (h2 : b < 1073741824) : DivOk a b := ⟨h0, PyProof.noPylong_small (by omega)⟩
/-! ### the readings of operators at data -/
section
variable (q : D → Prop) (x : XD)
theorem ev_add_int (i j : Int) : sAdd (.int i) (.int j) q x = q (.int (i + j)) := rfl
theorem ev_add_lst (xs ys : List D) : sAdd (.lst xs) (.lst ys) q x = (xs.length + ys.length ≤ LN ∧ q (.lst (xs ++ ys))) := rfl
theorem ev_add_tup (xs ys : List D) : sAdd (.tup xs) (.tup ys) q x = (xs.length + ys.length ≤ LN ∧ q (.tup (xs ++ ys))) := rfl
theorem ev_add_str (a b : Str) : sAdd (.str a) (.str b) q x = (a.length + b.length ≤ LN ∧ q (.str (a ++ b))) := rfl
theorem ev_cat (xs ys : List D) : sCat (.lst xs) (.lst ys) q x = (xs.length + ys.length ≤ LN ∧ q (.lst (xs ++ ys))) := rfl
theorem ev_I (C : Int → Int → Prop) (h : Int → Int → D) (i j : Int) : sI C h (.int i) (.int j) q x = (C i j ∧ q (h i j)) := rfl
theorem ev_I0 (h : Int → Int → D) (i j : Int) : sI0 h (.int i) (.int j) q x = q (h i j) := rfl
theorem ev_cmp (h : Int → Int → Bool) (i j : Int) : sCmp h (.int i) (.int j) q x = q (.bl (h i j)) := rfl
theorem ev_sub (i j : Int) : sSub (.int i) (.int j) q x = q (.int (i - j)) := rfl
theorem ev_mul (i j : Int) : sMul (.int i) (.int j) q x = (IntMulOk i j ∧ q (.int (i * j))) := rfl
theorem ev_div (i j : Int) : sDiv (.int i) (.int j) q x = (DivOk i j ∧ q (.int (i.fdiv j))) := rfl
theorem ev_mod (i j : Int) : sMod (.int i) (.int j) q x = (j ≠ 0 ∧ q (.int (i.fmod j))) := rfl
theorem ev_pow (i j : Int) : sPow (.int i) (.int j) q x = (CPow i j ∧ q (.int (i ^ j.toNat))) := rfl
theorem ev_max2 (i j : Int) : sMax2 (.int i) (.int j) q x = q (.int (if j > i then j else i)) := rfl
theorem ev_min2 (i j : Int) : sMin2 (.int i) (.int j) q x = q (.int (if j < i then j else i)) := rfl
theorem ev_gcd (i j : Int) : sGcd (.int i) (.int j) q x = q (.int (gcdI i j)) := rfl
theorem ev_neg (i : Int) : sNeg (.int i) q x = q (.int (-i)) := rfl
theorem ev_abs (i : Int) : sAbs (.int i) q x = q (.int (absI i)) := rfl
theorem ev_int (i : Int) : sInt (.int i) q x = q (.int i) := rfl
theorem ev_intb (b : Bool) : sInt (.bl b) q x = q (.int (if b then 1 else 0)) := rfl
theorem ev_len_tup (xs : List D) : sLen (.tup xs) q x = q (.int xs.length) := rfl
theorem ev_len_lst (xs : List D) : sLen (.lst xs) q x = q (.int xs.length) := rfl
theorem ev_tuple_tup (xs : List D) : sTuple (.tup xs) q x = q (.tup xs) := rfl
theorem ev_tuple_lst (xs : List D) : sTuple (.lst xs) q x = q (.tup xs) := rfl
theorem ev_list_tup (xs : List D) : sList (.tup xs) q x = q (.lst xs) := rfl
theorem ev_list_lst (xs : List D) : sList (.lst xs) q x = q (.lst xs) := rfl
theorem ev_rev (xs : List D) : sRev (.lst xs) q x = q (.lst xs.reverse) := rfl
theorem ev_rep (xs : List D) (k : Int) : sRep (.lst xs) (.int k) q x = (xs.length * k.toNat ≤ LN ∧ -1000000 ≤ k ∧ k ≤ 1000000 ∧ q (.lst (List.replicate k.toNat xs).flatten)) := rfl
theorem ev_ix_tup {xs : List D} {i : Int} {d : D} (h : atI xs i = some d) : sIx (.tup xs) (.int i) q x = q d := by unfold sIx; simp only [h]
theorem ev_ix_lst {xs : List D} {i : Int} {d : D} (h : atI xs i = some d) : sIx (.lst xs) (.int i) q x = q d := by unfold sIx; simp only [h]
theorem atI_nat {xs : List D} {n : Nat} {d : D} (h : xs[n]? = some d) : atI xs (n : Int) = some d := by
  have hn := (List.getElem?_eq_some_iff.mp h).1
  unfold atI ixN
  rw [if_pos (by omega), if_pos (by omega)]
  exact h
theorem ev_ix0t (a : D) (l : List D) : sIx (.tup (a :: l)) (.int 0) q x = q a := ev_ix_tup q x (atI_nat (n := 0) rfl)
theorem ev_ix1t (a b : D) (l : List D) : sIx (.tup (a :: b :: l)) (.int 1) q x = q b := ev_ix_tup q x (atI_nat (n := 1) rfl)
theorem ev_ix2t (a b c : D) (l : List D) : sIx (.tup (a :: b :: c :: l)) (.int 2) q x = q c := ev_ix_tup q x (atI_nat (n := 2) rfl)
theorem ev_ix0l (a : D) (l : List D) : sIx (.lst (a :: l)) (.int 0) q x = q a := ev_ix_lst q x (atI_nat (n := 0) rfl)
theorem ev_ix1l (a b : D) (l : List D) : sIx (.lst (a :: b :: l)) (.int 1) q x = q b := ev_ix_lst q x (atI_nat (n := 1) rfl)
theorem ev_eq_int (n : Bool) (i j : Int) : sEq n (.int i) (.int j) q x = q (.bl (n ^^ decide (i = j))) := rfl
theorem ev_eq_str (n : Bool) (i j : Str) : sEq n (.str i) (.str j) q x = q (.bl (n ^^ decide (i = j))) := rfl
theorem ev_isn (n : Bool) (a : D) : sIsN n a .non q x = q (.bl (n ^^ a.isNon)) := rfl
theorem ev_ty_non (n : String) : sIsi n .non q x = q (.bl (isTy n "NoneType")) := rfl
theorem ev_ty_bl (n : String) (b : Bool) : sIsi n (.bl b) q x = q (.bl (isTy n "bool")) := rfl
theorem ev_ty_int (n : String) (i : Int) : sIsi n (.int i) q x = q (.bl (isTy n "int")) := rfl
theorem ev_ty_str (n : String) (s : Str) : sIsi n (.str s) q x = q (.bl (isTy n "str")) := rfl
theorem ev_ty_tup (n : String) (xs : List D) : sIsi n (.tup xs) q x = q (.bl (isTy n "tuple")) := rfl
theorem ev_ty_lst (n : String) (xs : List D) : sIsi n (.lst xs) q x = q (.bl (isTy n "list")) := rfl
end
/-! ### numbers -/
theorem gcdI_eq (a b : Int) : gcdI a b = (Int.gcd a b : Int) := rfl
theorem gcdI_dvd_l (a b : Int) : gcdI a b ∣ a := Int.gcd_dvd_left ..
theorem gcdI_dvd_r (a b : Int) : gcdI a b ∣ b := Int.gcd_dvd_right ..
theorem gcdI_pos {a b : Int} (h : b ≠ 0) : 0 < gcdI a b := by
  have : 0 < Int.gcd a b := Int.gcd_pos_of_ne_zero_right a h
  rw [gcdI_eq]; omega
theorem fmod_zero_iff {a b : Int} (hb : 0 < b) : a.fmod b = 0 ↔ b ∣ a := by
  rw [Int.fmod_eq_emod_of_nonneg a (by omega)]
  exact ⟨Int.dvd_of_emod_eq_zero, Int.emod_eq_zero_of_dvd⟩
theorem whole_iff {a b : Int} (hb : 0 < b) (g : gcdI a b = 1) : a.fmod b = 0 ↔ b = 1 := by
  rw [fmod_zero_iff hb]
  constructor
  · intro h
    have : b ∣ gcdI a b := by rw [gcdI_eq]; exact Int.dvd_coe_gcd h (Int.dvd_refl b)
    rw [g] at this
    exact Int.eq_one_of_dvd_one (by omega) this
  · rintro rfl
    exact Int.one_dvd a
/-- p/q = -(r/s): whole together -/
theorem dvd_swap {p q r s : Int} (hq : q ≠ 0) (hs : s ≠ 0) (h : p * s = -r * q) : q ∣ p ↔ s ∣ r := by
  constructor
  · rintro ⟨k, rfl⟩
    refine ⟨-k, ?_⟩
    have : q * (k * s) = q * (-r) := by rw [← Int.mul_assoc, h, Int.mul_comm]
    have := Int.eq_of_mul_eq_mul_left hq this
    rw [Int.mul_neg, Int.mul_comm s k]; omega
  · rintro ⟨k, rfl⟩
    refine ⟨-k, ?_⟩
    have : s * p = s * (-(k * q)) := by rw [Int.mul_comm s p, h, Int.mul_neg, ← Int.mul_assoc, Int.neg_mul]
    have := Int.eq_of_mul_eq_mul_left hs this
    rw [this, Int.mul_neg, Int.mul_comm]
end DL

/-! DL10: while, list comprehensions, zip, enumerate over data. -/
namespace DL
open PySem L2
/-! ### while -/
/-- W: what holds ahead of a test, by a measure -/
def fWhile (t : FT) (b : FS) : FS := fun ρ d => ∃ W : Nat → Ro → Prop, (∃ m, W m ρ) ∧ ∀ m ρ, W m ρ → t ρ (fun c => if c = true then b ρ { d with nx := fun ρ' => ∃ m', m' < m ∧ W m' ρ', ct := fun ρ' => ∃ m', m' < m ∧ W m' ρ', bk := d.nx } else d.nx ρ) d.x
section
variable {X : Cx} {g : Gd} {E : XK} {k : Bool} {mb m : List Nat} {c : Expr} {body : List Stmt} {t : FT} {b : FS} {pos : Pos}
theorem ds_while (hp : PassesOwn (model X.prog X.w) X.A X.env X.xe) (hc : DT X g E m c t) (hb : DSs X g E k m m m body b) : DS X g E k mb m m (.While c body [] pos) (fWhile t b) := PSimp (ps_while hp hc hb) fun D σ H ⟨H0, F0, F, ρ, d, R, ⟨W, ⟨m0, w0⟩, turn⟩, h1, h2, h3, h4, h5⟩ => by
  refine ⟨fun mm σ' H' => ∃ F' ρ', Rel X.K g H0 F0 m σ' H' F' ρ' ∧ Ex F F' ∧ W mm ρ', ⟨m0, F, ρ, R, Ex.refl _, w0⟩, ?_⟩
  rintro mm σ' H' ⟨F', ρ', R', ex, w⟩
  refine ⟨H0, F0, F', ρ', _, d.x, R', turn mm ρ' w, fun b H2 F2 r hb => ?_, h5.step R'.fr⟩
  have ex2 : Ex F F2 := ex.trans r.f0
  cases b with
  | true =>
    rw [if_pos rfl] at hb
    refine iteT ⟨fun σ3 H3 => ∃ m', m' < mm ∧ ∃ F3 ρ3, Rel X.K g H0 F0 m σ3 H3 F3 ρ3 ∧ Ex F F3 ∧ W m' ρ3, fun σ3 H3 h => h, H0, F0, F2, ρ', _, R'.step r, hb, ?_, ?_, ?_, h4, h5⟩
    · rintro σ4 H4 F4 ρ4 R4 e4 ⟨m', l, w'⟩
      exact ⟨m', l, F4, ρ4, R4, ex2.trans e4, w'⟩
    · exact fun σ4 H4 F4 ρ4 R4 e4 n4 => h1 σ4 H4 F4 ρ4 R4 (ex2.trans e4) n4
    · rintro σ4 H4 F4 ρ4 R4 e4 ⟨m', l, w'⟩
      exact ⟨m', l, F4, ρ4, R4, ex2.trans e4, w'⟩
  | false =>
    rw [if_neg Bool.false_ne_true] at hb
    exact iteF (h1 σ' H2 F2 ρ' (R'.step r) ex2 hb)
end
/-- a loop by what holds, with a measure -/
theorem fWhile_inv {t : FT} {b : FS} {d : DEnds} (W : Nat → Ro → Prop) {m : Nat} {ρ : Ro} (h : W m ρ)
    (turn : ∀ m ρ, W m ρ → ∀ nx : Ro → Prop, (∀ m' ρ', m' < m → W m' ρ' → nx ρ') → t ρ (fun c => if c = true then b ρ { d with nx := nx, ct := nx, bk := d.nx } else d.nx ρ) d.x) : fWhile t b ρ d :=
  ⟨W, ⟨m, h⟩, fun m ρ w => turn m ρ w _ fun m' ρ' l w' => ⟨m', l, w'⟩⟩
/-! ### slots forgotten -/
def wipeD (ρ : Ro) : List Nat → Ro
  | [] => ρ
  | v :: vs => (wipeD ρ vs).set v none
theorem wipe_set {σ : L2.St} {i : Nat} {x : Option V} : ∀ {vs : List Nat}, i ∈ vs → wipe (σ.set i x) vs = wipe σ vs
  | v :: vs, h => by
    unfold wipe
    by_cases hv : i ∈ vs
    · rw [wipe_set hv]
    · have e : i = v := by
        rcases List.mem_cons.mp h with e | e
        · exact e
        · exact absurd e hv
      subst e
      rw [wipe_setN hv, List.set_set]
where
  wipe_setN {σ : L2.St} {i : Nat} {x : Option V} : ∀ {vs : List Nat}, i ∉ vs → wipe (σ.set i x) vs = (wipe σ vs).set i x
  | [], _ => rfl
  | v :: vs, h => by
    unfold wipe
    rw [wipe_setN fun e => h (List.mem_cons_of_mem _ e)]
    exact List.set_comm _ _ fun e => h (by rw [e]; exact List.mem_cons_self ..)
theorem wipe_idem (σ : L2.St) : ∀ vs : List Nat, wipe (wipe σ vs) vs = wipe σ vs := fun vs => go σ vs vs fun _ h => h
where
  go (σ : L2.St) (vs : List Nat) : ∀ us : List Nat, (∀ i ∈ us, i ∈ vs) → wipe (wipe σ us) vs = wipe σ vs
  | [], _ => rfl
  | u :: us, h => by
    show wipe ((wipe σ us).set u none) vs = wipe σ vs
    rw [wipe_set (h u (List.mem_cons_self ..))]
    exact go σ vs us fun i hi => h i (List.mem_cons_of_mem _ hi)
section
variable {K : PySem.W.Frag} {g : Gd} {H0 F0 H F : Hp} {m : List Nat} {σ : L2.St} {ρ : Ro}
theorem Rel.drop (r : Rel K g H0 F0 m σ H F ρ) {i : Nat} (hi : i ∉ m) : Rel K g H0 F0 m (σ.set i none) H F (ρ.set i none) := by
  refine ⟨r.fr, by rw [List.length_set, List.length_set]; exact r.len, fun j d h1 h2 => ?_, ?_⟩
  · rcases set_get h1 with ⟨rfl, e⟩ | ⟨hj, e⟩
    · cases e
    · obtain ⟨v, e1, e2⟩ := r.vals j d e h2
      exact ⟨v, by rw [List.getElem?_set_ne (Ne.symm hj)]; exact e1, e2⟩
  · obtain ⟨oa, h1, h2⟩ := r.own
    refine ⟨oa, fun j hj => ?_, h2⟩
    obtain ⟨vs, xs, e1, e2, e3⟩ := h1 j hj
    have hne : i ≠ j := fun z => hi (by rw [z]; exact hj)
    exact ⟨vs, xs, by rw [List.getElem?_set_ne hne]; exact e1, by rw [List.getElem?_set_ne hne]; exact e2, e3⟩
theorem Rel.wipe (r : Rel K g H0 F0 m σ H F ρ) : ∀ {vs : List Nat}, (∀ i ∈ vs, i ∉ m) → Rel K g H0 F0 m (wipe σ vs) H F (wipeD ρ vs)
  | [], _ => r
  | v :: vs, h => (r.wipe fun i hi => h i (List.mem_cons_of_mem _ hi)).drop (h v (List.mem_cons_self ..))
end
/-! ### targets of a comprehension -/
def tGw (K : PySem.W.Frag) (g : Gd) (m vs : List Nat) (f : FG) : TG := fun v σ H Q => ∃ H0 F0 F ρ d q, Rel K g H0 F0 m σ H F ρ ∧ Is K F v d ∧ f d ρ q ∧ ∀ σ' ρ', Rel K g H0 F0 m σ' H F ρ' → wipe σ' vs = wipe σ vs → q ρ' → Q σ' H
abbrev DGw (X : Cx) (g : Gd) (m vs : List Nat) (e : Expr) (f : FG) : Prop := PG X e (tGw X.K g m vs f)
def tGsw (K : PySem.W.Frag) (g : Gd) (m vs : List Nat) (f : FGs) : TGs := fun ws σ H Q => ∃ H0 F0 F ρ ds q, Rel K g H0 F0 m σ H F ρ ∧ IsAll K F ws ds ∧ f ds ρ q ∧ ∀ σ' ρ', Rel K g H0 F0 m σ' H F ρ' → wipe σ' vs = wipe σ vs → q ρ' → Q σ' H
abbrev DGsw (X : Cx) (g : Gd) (m vs : List Nat) (es : List Expr) (f : FGs) : Prop := PGs X es (tGsw X.K g m vs f)
section
variable {X : Cx} {g : Gd} {m vs : List Nat} {e : Expr} {es : List Expr} {f : FG} {fs : FGs} {pos : Pos}
theorem dgw_name {i : Nat} {x : Str} (hN : X.N.Nodup) (hi : X.N[i]? = some x) (hx : Loc X.env.scope x) (hf : X.fn x = true ∨ X.env.scope.names.lookup x = some .local) (hv : vs.contains i = true := by rfl) (hm : m.contains i = false := by rfl) : DGw X g m vs (.Name x pos) (fName i) :=
  PGimp (pg_name hN hi hx hf) fun v σ H Q ⟨H0, F0, F, ρ, d, q, R, is, hf, hq⟩ => by
  have h := R.set is hf.1
  have e : m.filter (· ≠ i) = m := List.filter_eq_self.mpr fun j hj => by
    have : j ≠ i := fun z => by
      have : m.contains j = true := by simpa using hj
      rw [z, hm] at this
      cases this
    simpa using this
  rw [e] at h
  exact hq _ _ h (wipe_set (by simpa using hv)) hf.2
theorem dgsw_nil : DGsw X g m vs [] fGnil := PGsimp pgs_nil fun ws σ H Q ⟨H0, F0, F, ρ, ds, q, R, is, hf, hq⟩ => by
  obtain ⟨rfl, hf⟩ := hf
  cases is
  exact ⟨rfl, hq _ _ R rfl hf⟩
theorem dgsw_cons (h1 : DGw X g m vs e f) (h2 : DGsw X g m vs es fs) (hs : (assignEach (e :: es) X.env).map (·.2) = assign e X.env :: (assignEach es X.env).map (·.2) := by rfl) : DGsw X g m vs (e :: es) (fGcons f fs) :=
  PGsimp (pgs_cons h1 h2 hs) fun ws σ H Q ⟨H0, F0, F, ρ, ds, q, R, is, hf, hq⟩ => by
  unfold fGcons at hf
  split at hf
  · exact hf.elim
  · cases is with
    | cons i1 i2 => exact ⟨_, _, rfl, H0, F0, F, ρ, _, _, R, i1, hf, fun σ' ρ' R' w hf' => ⟨H0, F0, F, ρ', _, q, R', i2, hf', fun σ2 ρ2 R2 w2 h2 => hq _ _ R2 (w2.trans w) h2⟩⟩
theorem dgw_tup {k n : Nat} (hc : X.calm = true) (h : DGsw X g m vs es fs) (hn : (assignEach es X.env).length = n := by rfl) (hst : (assignEach es X.env).findIdx? (·.1) = none := by rfl) : DGw X g m vs (.Tuple es k pos) (fGtup n fs) :=
  PGimp (pg_tup hc h hn hst) fun v σ H Q ⟨H0, F0, F, ρ, d, q, R, is, hf, hq⟩ => by
  unfold fGtup at hf
  split at hf
  · cases is with
    | tup h1 h2 => exact ⟨_, _, rfl, R.fr.sub.sqT h1, by rw [h2.length]; exact hf.1, H0, F0, F, ρ, _, q, R, h2, hf.2, hq⟩
  · exact hf.elim
end
/-! ### [e for t in it if c] -/
def fYes : FT := fun _ q _ => q true
def lcL (t : FG) (tt : FT) (fe : FE) (vs : List Nat) (ρ : Ro) (q : D → Prop) (x : XD) : List D → List D → Prop
  | [], acc => q (.lst acc)
  | a :: r, acc => t a (wipeD ρ vs) fun ρ1 => tt ρ1 (fun b => if b = true then fe ρ1 (fun d => acc.length < LN ∧ lcL t tt fe vs ρ q x r (acc ++ [d])) x else lcL t tt fe vs ρ q x r acc) x
def fLc (i : FI) (t : FG) (tt : FT) (fe : FE) (vs : List Nat) : FE := fun ρ q x => i ρ (fun ds => lcL t tt fe vs ρ q x ds []) x
section
variable {X : Cx} {g : Gd} {E : XK} {m : List Nat} {elt tg iter : Expr} {ifs : List Expr} {scope : Scope} {own : List (Str × Nat)} {pos : Pos} {fi : FI} {t : FG} {tt : FT} {fe : FE}
theorem dts_nil : PTs X [] (tT X.K g E m fYes) := ⟨fun pins s σ H Q I ⟨H0, F0, F, ρ, q, x, R, hf, hq, hx⟩ => pts_nil.run pins s σ H Q I (hq true H F R.fr.self hf)⟩
theorem dts_one {c : Expr} (h : DT X g E m c tt) : PTs X [c] (tT X.K g E m tt) := pts_one h
/-- what is read of a comprehension -/
theorem lc_read {vs : List Nat} (hm : vs.all (fun i => !m.contains i) = true) {σ : L2.St} {H : Hp} {Q : VK} (h : tF X.K g E m (fLc fi t tt fe vs) σ H Q) : tLc (tI X.K g E m fi) (tGw X.K g m vs t) (tT X.K g E m tt) (tE X.K g E m fe) vs σ H Q := by
  obtain ⟨H0, F0, F, ρ, q, x, R, hf, hq, hx⟩ := h
  have hm' : ∀ i ∈ vs, i ∉ m := fun i hi hj => by
    have := List.all_eq_true.mp hm i hi
    have h2 : m.contains i = true := by simpa using hj
    rw [h2] at this
    cases this
  refine ⟨H0, F0, F, ρ, _, x, R, hf, fun J H1 F1 ds r1 y hd D hD => ?_, hx⟩
  have R1 := R.step r1
  have nD : H D = none := r1.back hD
  refine ⟨fun i mm H' => mm = ds.length - i ∧ i ≤ ds.length ∧ ∃ F' vs' acc, Fr g H F H' F' ∧ Ex F1 F' ∧ H' D = some (.lst vs') ∧ IsAll X.K F' vs' acc ∧ F' D = none ∧ lcL t tt fe vs ρ q x (ds.drop i) acc,
    ⟨_, rfl, Nat.zero_le _, F1, [], [], r1.trans (R1.fr.newO hD), Ex.refl _, upd_same, .nil, R1.fr.freeF hD, hd⟩, ?_⟩
  rintro i mm H' ⟨rfl, hi, F', vs', acc, r', ex, hl, ha, hFD, hlc⟩
  by_cases hlt : i < ds.length
  · refine .inr ⟨y.go i H' (ex.trans r'.sub) hlt, fun H2 => ∃ F2 vs2 acc2, Fr g H F H2 F2 ∧ Ex F1 F2 ∧ H2 D = some (.lst vs2) ∧ IsAll X.K F2 vs2 acc2 ∧ F2 D = none ∧ lcL t tt fe vs ρ q x (ds.drop (i + 1)) acc2,
      fun H2 h => ⟨ds.length - (i + 1), by omega, rfl, hlt, h⟩, fun x' H2 hy => ?_⟩
    obtain ⟨F2, r2, is2⟩ := y.yl g i ds[i] H' F' x' H2 r'.self ex (List.getElem?_eq_getElem hlt) hy
    rw [List.drop_eq_getElem_cons hlt] at hlc
    have r12 := r'.trans r2
    have hlc' : t ds[i] (wipeD ρ vs) (fun ρ1 => tt ρ1 (fun b => if b = true then fe ρ1 (fun d => acc.length < LN ∧ lcL t tt fe vs ρ q x (ds.drop (i + 1)) (acc ++ [d])) x else lcL t tt fe vs ρ q x (ds.drop (i + 1)) acc) x) := hlc
    refine ⟨H0, F0, F2, wipeD ρ vs, ds[i], _, (R.step r12).wipe hm', is2, hlc', fun σ3 ρ3 R3 hw hb3 => ⟨hw.trans (by rw [wipe_idem]), ?_⟩⟩
    refine ⟨H0, F0, F2, ρ3, _, x, R3, hb3, fun b H3 F3 r3 hb => ?_, hx.step r12⟩
    have r13 := r12.trans r3
    have nM : ¬ g.M D := fun z => (R.fr.nm D z).2 |> fun h => (R.fr.there h) nD
    have d2 := r2.pre D _ nM hl
    have d3 := r3.pre D _ nM d2
    have f2 : F2 D = none := (r2.old D (by rw [hl]; exact fun z => by cases z)).trans hFD
    have f3 : F3 D = none := (r3.old D (by rw [d2]; exact fun z => by cases z)).trans f2
    cases b with
    | true =>
      rw [if_pos rfl] at hb
      refine iteT ⟨H0, F0, F3, ρ3, _, x, R3.step r3, hb, fun yv H4 F4 d r4 i4 hd4 => ?_, (hx.step r12).step r3⟩
      have d4 := r4.pre D _ nM d3
      have f4 : F4 D = none := (r4.old D (by rw [d3]; exact fun z => by cases z)).trans f3
      refine ⟨vs', d4, LN_lt (by rw [ha.length]; exact Nat.le_of_lt hd4.1), F4, vs' ++ [yv], acc ++ [d], (r13.trans r4).write nD f4, ((ex.trans r2.f0).trans r3.f0).trans r4.f0, upd_same, ((ha.up r2.f0).up r3.f0 |>.up r4.f0).append (.cons i4 .nil), f4, hd4.2⟩
    | false =>
      rw [if_neg Bool.false_ne_true] at hb
      exact iteF ⟨F3, vs', acc, r13, (ex.trans r2.f0).trans r3.f0, d3, (ha.up r2.f0).up r3.f0, f3, hb⟩
  · have e : i = ds.length := by omega
    subst e
    rw [List.drop_length] at hlc
    exact .inl ⟨y.stop _ H' (ex.trans r'.sub) (Nat.le_refl _), hq D H' F' vs' acc r' nD hl hFD ha hlc⟩
theorem df_lc (hc : X.calm = true) (hN : X.N.Nodup) (hi : DI X g E m tg iter fi) (ok : BlkOk X.N X.env.scope scope own)
    (hg : ∀ (s : Shared) (H : Hp) (C : Addr) (cl : List (Str × Addr)) (fp : List Addr), DGw (X.blk s H scope (compEnvC scope cl C X.env) fp) g m (own.map (·.2)) tg t)
    (ht : ∀ (s : Shared) (H : Hp) (C : Addr) (cl : List (Str × Addr)) (fp : List Addr), PTs (X.blk s H scope (compEnvC scope cl C X.env) fp) ifs (tT X.K g E m tt))
    (he : ∀ (s : Shared) (H : Hp) (C : Addr) (cl : List (Str × Addr)) (fp : List Addr), DE (X.blk s H scope (compEnvC scope cl C X.env) fp) g E m elt fe)
    (hm : (own.map (·.2)).all (fun i => !m.contains i) = true := by rfl) (hs : ∀ x, foldedSetIterable iter X.env x = pure x := by intro _; rfl) :
    DF X g E m (.ListComp elt [⟨tg, iter, ifs, 0⟩] scope pos) (fLc fi t tt fe (own.map (·.2))) := PEimp (pe_lc (g := tGw X.K g m (own.map (·.2)) t) (te := tE X.K g E m fe) hc hN hi ok hg ht he hs) fun σ H Q h => lc_read hm h
variable {kd : Bool} {mb : List Nat} {spos : Pos}
/-- name = [..] on one line: data -/
theorem ds_setLc {i : Nat} {y : Str} {py : Pos} (hc : X.calm = true) (hN : X.N.Nodup) (hy : X.N[i]? = some y) (hyl : X.env.scope.names.lookup y = some .local) (hi : DI X g E m tg iter fi) (ok : BlkOk X.N X.env.scope scope own)
    (hg : ∀ (s : Shared) (H : Hp) (C : Addr) (cl : List (Str × Addr)) (fp : List Addr), DGw (X.blk s H scope (compEnvC scope cl C X.env) fp) g m (own.map (·.2)) tg t)
    (ht : ∀ (s : Shared) (H : Hp) (C : Addr) (cl : List (Str × Addr)) (fp : List Addr), PTs (X.blk s H scope (compEnvC scope cl C X.env) fp) ifs (tT X.K g E m tt))
    (he : ∀ (s : Shared) (H : Hp) (C : Addr) (cl : List (Str × Addr)) (fp : List Addr), DE (X.blk s H scope (compEnvC scope cl C X.env) fp) g E m elt fe)
    (hsw : swapsWith (.ListComp elt [⟨tg, iter, ifs, 0⟩] scope pos) (some (.Name y py)) spos.line X.env = pure true := by rfl)
    (hm : (own.map (·.2)).all (fun i => !m.contains i) = true := by rfl) (hs : ∀ x, foldedSetIterable iter X.env x = pure x := by intro _; rfl) :
    DS X g E kd mb m (del m i) (.Assign [.Name y py] (.ListComp elt [⟨tg, iter, ifs, 0⟩] scope pos) spos) (fAsg (fLc fi t tt fe (own.map (·.2))) (fName i)) :=
  PSimp (ps_setLc (own := own) (g := tGw X.K g m (own.map Prod.snd) t) (te := tE X.K g E m fe) hc hN hy hyl hsw hi ok hg ht he hs) fun D σ H ⟨H0, F0, F, ρ, d, R, hf, h1, h2, h3, h4, h5⟩ =>
    show tLc (tI X.K g E m fi) (tGw X.K g m (own.map (·.2)) t) (tT X.K g E m tt) (tE X.K g E m fe) (own.map (·.2)) σ H (fun v H1 => D.nx (σ.set i (some v)) H1) from
    lc_read hm ⟨H0, F0, F, ρ, _, d.x, R, hf, fun p H' F' vs xs q n e1 e2 ha hd => h1 _ H' _ _ ((R.step (q.freeze e1 n e2)).set (.lst upd_same (ha.up (upd_ex e2))) hd.1) (q.f0.trans (upd_ex e2)) hd.2, h5.step R.fr⟩
/-- .. a list of ours -/
theorem ds_setLcF {i : Nat} {y : Str} {py : Pos} (hc : X.calm = true) (hN : X.N.Nodup) (hy : X.N[i]? = some y) (hyl : X.env.scope.names.lookup y = some .local) (hi : DI X g E m tg iter fi) (ok : BlkOk X.N X.env.scope scope own)
    (hg : ∀ (s : Shared) (H : Hp) (C : Addr) (cl : List (Str × Addr)) (fp : List Addr), DGw (X.blk s H scope (compEnvC scope cl C X.env) fp) g m (own.map (·.2)) tg t)
    (ht : ∀ (s : Shared) (H : Hp) (C : Addr) (cl : List (Str × Addr)) (fp : List Addr), PTs (X.blk s H scope (compEnvC scope cl C X.env) fp) ifs (tT X.K g E m tt))
    (he : ∀ (s : Shared) (H : Hp) (C : Addr) (cl : List (Str × Addr)) (fp : List Addr), DE (X.blk s H scope (compEnvC scope cl C X.env) fp) g E m elt fe)
    (hsw : swapsWith (.ListComp elt [⟨tg, iter, ifs, 0⟩] scope pos) (some (.Name y py)) spos.line X.env = pure true := by rfl)
    (hm : (own.map (·.2)).all (fun i => !m.contains i) = true := by rfl) (hs : ∀ x, foldedSetIterable iter X.env x = pure x := by intro _; rfl) :
    DS X g E kd mb m (i :: del m i) (.Assign [.Name y py] (.ListComp elt [⟨tg, iter, ifs, 0⟩] scope pos) spos) (fAsg (fLc fi t tt fe (own.map (·.2))) (fName i)) :=
  PSimp (ps_setLc (own := own) (g := tGw X.K g m (own.map Prod.snd) t) (te := tE X.K g E m fe) hc hN hy hyl hsw hi ok hg ht he hs) fun D σ H ⟨H0, F0, F, ρ, d, R, hf, h1, h2, h3, h4, h5⟩ =>
    show tLc (tI X.K g E m fi) (tGw X.K g m (own.map (·.2)) t) (tT X.K g E m tt) (tE X.K g E m fe) (own.map (·.2)) σ H (fun v H1 => D.nx (σ.set i (some v)) H1) from
    lc_read hm ⟨H0, F0, F, ρ, _, d.x, R, hf, fun p H' F' vs xs q n e1 e2 ha hd => h1 _ H' F' _ ((R.step q).setO hd.1 e1 e2 (R.fr.back n) ha fun j v ej hj z => by
      subst z
      obtain ⟨oa, q1, _⟩ := R.own
      obtain ⟨vs', xs', e1', _, e3', _⟩ := q1 j hj
      rw [ej] at e1'
      cases e1'
      rw [n] at e3'
      cases e3') q.f0 hd.2, h5.step R.fr⟩
end
end DL

/-! DL11: what the layers below lack: a tuple taken few times, turned round, enumerated. -/
namespace DL
open PySem PySem.Spec PyProof.Rows L2
/-! ### t * 1, () * k, t * 0 -/
theorem mul_same (l : Addr) (items : Array Value) (n : Nat) (dd : Option Addr) (sl : Array (Option Value)) (x : Int) (u : Tok) (c0 : (decide (x < -(2 ^ 63)) || decide (x ≥ 2 ^ 63)) = false) (c1 : (items.isEmpty || x == 1) = true) :
    Meets (Builtin.«tuple.__mul__» ⟨[.ref l, .int x u], []⟩) (fun _ R s => s.heap.get? l = some { cls := .type "tuple", dict := dd, data := .seq items n, slots := sl } ∧ R (.ok (.ret (Value.ref l))) s) :=
  .of_wp fun prog w A R s h => by
    obtain ⟨hp, g, d, tk, os⟩ := s
    obtain ⟨hl, h⟩ := h
    have f1 := AutoSeq1.idx_int
    wp_walk using wpAny_loadPart' hl
    refine wpAny_ite_false (decide_eq_false (by rw [c0]; exact Bool.false_ne_true)) ?_
    wp_walk using wpAny_loadPart' hl
    exact ⟨_, rfl, h⟩
theorem mul_none (l : Addr) (items : Array Value) (n : Nat) (dd : Option Addr) (sl : Array (Option Value)) (x : Int) (u : Tok) (c0 : (decide (x < -(2 ^ 63)) || decide (x ≥ 2 ^ 63)) = false) (c1 : (items.isEmpty || x == 1) = false) (c2 : (decide (x ≤ 0) || items.isEmpty) = true) :
    Meets (Builtin.«tuple.__mul__» ⟨[.ref l, .int x u], []⟩) (fun _ R s => s.heap.get? l = some { cls := .type "tuple", dict := dd, data := .seq items n, slots := sl } ∧
      R (.ok (.ret (Value.ref s.heap.objs.size))) { s with heap := s.heap.push { cls := Value.type "tuple", data := Data.seq #[] }, toks := s.toks }) :=
  .of_wp fun prog w A R s h => by
    obtain ⟨hp, g, d, tk, os⟩ := s
    obtain ⟨hl, h⟩ := h
    have f1 := AutoSeq1.idx_int
    wp_walk using wpAny_loadPart' hl
    repeat (first
      | (refine wpAny_ite_false (decide_eq_false (by rw [c0]; exact Bool.false_ne_true)) ?_; wp_walk using wpAny_loadPart' hl)
      | (refine wpAny_ite_false (decide_eq_false (by rw [c1]; exact Bool.false_ne_true)) ?_; wp_walk using wpAny_loadPart' hl))
    exact ⟨_, rfl, h⟩
def rRepS (K : PySem.W.Frag) : R2 := fun x y H Q => ∃ l k xs, x = .ref l ∧ y = .int k ∧ SqT K H l xs ∧ -1000000 ≤ k ∧ k ≤ 1000 ∧ (k ≤ 1 ∨ xs = []) ∧ (k = 1 ∨ xs = [] → Q (.ref l) H) ∧ (k ≤ 0 → xs ≠ [] → ∀ p, H p = none → Q (.ref p) (upd H p (.tup [])))
/-- t * k by what the tuple's own deed does -/
theorem times_of {X : Cx} {s : Shared} {l : Addr} {k : Int} {t : Tok} {us : List Value} {n : Nat} {dd : Option Addr} {sl : Array (Option Value)} {Qv : Value → Shared → Prop}
    (there : s.heap.get? l = some { cls := .type "tuple", dict := dd, data := .seq us.toArray n, slots := sl })
    (own : wpAny (model X.prog X.w) X.A (call (.builtin "tuple.__mul__") [.ref l, .int k t]) Qv X.xe s) :
    wpAny (model X.prog X.w) X.A (binaryOp .Mult (.ref l) (.int k t)) Qv X.xe s := by
  have first := int_rmul_tuple k t l us.toArray n dd sl
  have declines : wpAny (model X.prog X.w) X.A (call (.builtin "int.__rmul__") [.int k t, .ref l]) (fun v s' => v = .notImplemented ∧ s'.TypeIs (.ref l) "tuple" ∧
      wpAny (model X.prog X.w) X.A (call (.builtin "tuple.__mul__") [.ref l, .int k t]) Qv X.xe s') X.xe s :=
    call_meets F.slot_int_rmul (typeIs_int s k t) F.entry_int_rmul (F.args_int_rmul_2 _ _) first ⟨there, rfl, ⟨_, there, rfl⟩, own⟩
  exact wpAny_binaryOp_repeat_ref (T := "tuple") (U := "int") rfl ⟨_, there, rfl⟩ (fun s' => typeIs_int s' k t) noFill_tuple_mul
    F.fills_int_mul F.slot_int_rmul repeat_tuple F.slot_int_index.lookup declines
theorem op_repS {X : Cx} : OpR X (binaryOp .Mult) (rRepS X.K) := by
  rintro pins s σ H x y v u Q I rx ry ⟨l, k, xs, rfl, rfl, hT, lo, hi, few, q1, q2⟩
  cases rx
  obtain ⟨tk, rfl⟩ := ry
  obtain ⟨us, rel, ⟨ob, there, kind, n, data⟩, _⟩ := I.tuple hT
  obtain ⟨_, od, _, osl⟩ := ob
  cases kind
  cases data
  have fits : (decide (k < -(2 ^ 63)) || decide (k ≥ 2 ^ 63)) = false := by simp; omega
  have bare : us.toArray.isEmpty = decide (xs = []) := by
    have := rel.length
    cases us <;> cases xs <;> simp at this ⊢
  refine times_of there ?_
  by_cases same : k = 1 ∨ xs = []
  · have c1 : (us.toArray.isEmpty || k == 1) = true := by
      rw [bare]
      rcases same with rfl | e <;> simp [*]
    exact call_meets F.slot_tuple_mul ⟨_, there, rfl⟩ F.entry_tuple_mul (F.args_tuple_mul_2 _ _) (mul_same l us.toArray n od osl k tk fits c1) ⟨there, .ref l, H, I, rfl, q1 same⟩
  · have ne1 : k ≠ 1 := fun z => same (.inl z)
    have neE : xs ≠ [] := fun z => same (.inr z)
    have low : k ≤ 0 := by rcases few with h | h <;> first | omega | exact absurd h neE
    have c1 : (us.toArray.isEmpty || k == 1) = false := by rw [bare]; simp [ne1, neE]
    have c2 : (decide (k ≤ 0) || us.toArray.isEmpty) = true := by simp [low]
    have new : Inv X pins σ (upd H s.heap.objs.size (.tup [])) { s with heap := s.heap.push { cls := .type "tuple", data := .seq #[] }, toks := s.toks } :=
      I.laid (fun _ _ z => Heap.get?_push_of_some _ z) (Nat.le_refl _) ⟨by decide, [], .nil, IsTup.new _ _⟩
    exact call_meets F.slot_tuple_mul ⟨_, there, rfl⟩ F.entry_tuple_mul (F.args_tuple_mul_2 _ _) (mul_none l us.toArray n od osl k tk fits c1 c2) ⟨there, .ref _, _, new, rfl, q2 low neE _ (I.hok.fresh (Nat.le_refl _))⟩
/-- t * k -/
def sRepT : Sem2T := fun a b q _ => match a, b with
  | .tup xs, .int k => xs.length ≤ 1000 ∧ -1000000 ≤ k ∧ k ≤ 1000 ∧ q (.tup (List.replicate k.toNat xs).flatten)
  | _, _ => False
theorem sem_repT {K : PySem.W.Frag} : Sem2 K (fun x y H Q => rRepT K x y H Q ∨ rRepS K x y H Q) sRepT := by
  intro g E H F v w a b q x Q r ia ib hs hq hx
  unfold sRepT at hs
  split at hs
  · obtain ⟨hl, hk1, hk2, hs⟩ := hs
    rename_i xs k
    obtain ⟨p, vs, rfl, h1, h2⟩ := ia.tup
    have e1 := h2.length
    have e2 : ∀ {α : Type} (zs : List α), (List.replicate 0 zs).flatten = [] := fun _ => rfl
    by_cases h : 2 ≤ k ∧ vs ≠ []
    · exact .inl ⟨_, _, _, rfl, ib.int, r.sub.sqT h1, h.2, h.1, hk2, by omega, fun p hp => hq _ _ (upd F p _) _ (r.new hp) (.tup (.inl (.inl upd_same)) ((h2.repF _).up (r.new (o := .tup (List.replicate k.toNat vs).flatten) hp).f0)) hs⟩
    · refine .inr ⟨_, _, _, rfl, ib.int, r.sub.sqT h1, hk1, hk2, ?_, fun hk => ?_, fun hk hne p hp => ?_⟩
      · by_cases hv : vs = []
        · exact .inr hv
        · exact .inl (by
            have : ¬ 2 ≤ k := fun z => h ⟨z, hv⟩
            omega)
      · refine hq _ H F _ r (.tup h1 h2) ?_
        rcases hk with rfl | hv
        · have : (List.replicate (1 : Int).toNat xs).flatten = xs := by simp
          rw [this] at hs
          exact hs
        · have hx0 : xs = [] := List.eq_nil_of_length_eq_zero (by rw [← e1, hv]; rfl)
          rw [hx0] at hs ⊢
          simpa using hs
      · have hk' : k.toNat = 0 := by omega
        rw [hk'] at hs
        exact hq _ _ (upd F p _) _ (r.new hp) (.tup (.inl (.inl upd_same)) .nil) hs
  · exact hs.elim
theorem de_repT {X : Cx} {g : Gd} {E : XK} {m : List Nat} {a b : Expr} {fa fb : FE} {pos : Pos} (ha : DB X g E m a fa) (hb : DB X g E m b fb) : DE X g E m (.BinOp a .Mult b pos) (f2 sRepT fa fb) := de_2 (pe_op (op_repT.or op_repS) ha hb) sem_repT
/-! ### t[::-1] -/
section
variable {prog : Program} {w : World} {A : Around} {E : Value → Shared → Prop} {s : Shared}
theorem adjust_back (n : Nat) : Builtin.Slice.sliceAdjust none none (-1) (n : Int) = ((n : Int) - 1, -1) := by
  unfold Builtin.Slice.sliceAdjust
  simp
theorem places_back (n : Nat) : Builtin.Slice.slicePlaces ((n : Int) - 1) (-1) (-1) = n := by
  unfold Builtin.Slice.slicePlaces
  simp
  omega
theorem fm_congr {α β : Type} {f g : α → Option β} : ∀ {l : List α}, (∀ x ∈ l, f x = g x) → l.filterMap f = l.filterMap g
  | [], _ => rfl
  | x :: l, h => by
    rw [List.filterMap_cons, List.filterMap_cons, h x (List.mem_cons_self ..), fm_congr fun y hy => h y (List.mem_cons_of_mem _ hy)]
theorem pick_back (us : List Value) : ((List.range us.length).filterMap fun (k : Nat) => us.toArray[(((us.length : Nat) : Int) - 1 + (k : Int) * (-1)).toNat]?) = us.reverse := by
  have e : ∀ k ∈ List.range us.length, us.toArray[(((us.length : Nat) : Int) - 1 + (k : Int) * (-1)).toNat]? = us.reverse[k]? := fun k hk => by
    have hk := List.mem_range.mp hk
    have : (((us.length : Nat) : Int) - 1 + (k : Int) * (-1)).toNat = us.length - 1 - k := by omega
    rw [this, List.getElem?_toArray, List.getElem?_reverse hk]
  rw [fm_congr e]
  have h := pick_run us.reverse.toArray 0 us.length
  rw [List.filterMap_map] at h
  have e2 : ((fun x => us.reverse.toArray[x]?) ∘ fun x => 0 + x) = fun k : Nat => us.reverse[k]? := by funext k; simp
  rw [e2] at h
  rw [h, List.drop_zero, ← List.length_reverse (as := us), List.take_length]
theorem applied_back {sl : Addr} {vs : Value} {n : Nat} {Q : Int × Int × Nat → Shared → Prop} (hs : s.heap.IsSliceOf sl .none .none vs) (ps : IsPart vs (some (-1))) (h : Q ((n : Int) - 1, -1, n) s) :
    wpAny (model prog w) A (Builtin.Slice.sliceApplied (.ref sl) (pure (n : Int))) Q E s := by
  obtain ⟨ob, there, _, flds⟩ := hs
  unfold Builtin.Slice.sliceApplied
  unfold Builtin.Slice.sliceFields
  refine wpAny_bind (wpAny_bind (wpAny_field there flds (x := .none) rfl ?_))
  refine wpAny_bind (wpAny_field there flds (x := .none) rfl ?_)
  refine wpAny_bind (wpAny_field there flds (x := vs) rfl (wpAny_pure ?_))
  refine wpAny_bind (HT.slicePart_ ps ?_)
  show wpAny _ _ (if ((-1 : Int) == 0) = true then _ else _) _ _ s
  rw [if_neg (by decide)]
  refine wpAny_bind (HT.slicePart_ .none ?_)
  refine wpAny_bind (HT.slicePart_ .none ?_)
  refine wpAny_bind (wpAny_pure ?_)
  show wpAny _ _ (match Builtin.Slice.sliceAdjust none none (-1) (n : Int) with | (lo, hi) => pure (lo, (-1 : Int), Builtin.Slice.slicePlaces lo hi (-1))) _ _ s
  rw [adjust_back n]
  show wpAny _ _ (pure ((n : Int) - 1, (-1 : Int), Builtin.Slice.slicePlaces ((n : Int) - 1) (-1) (-1))) _ _ s
  rw [places_back]
  exact wpAny_pure h
/-- t[::-1] of a tuple -/
theorem item_back {t sl : Addr} {us : List Value} {vs : Value} {Q : Value → Shared → Prop} (ht : IsTup s.heap t us.toArray) (hs : s.heap.IsSliceOf sl .none .none vs) (ps : IsPart vs (some (-1))) (small : us.length ≤ sizeLine)
    (h : Q (.ref s.heap.objs.size) { s with heap := s.heap.push { cls := .type "tuple", data := .seq us.reverse.toArray } }) : wpAny (model prog w) A (getItem (.ref t) (.ref sl)) Q E s := by
  have isS : s.TypeIs (.ref sl) "slice" := let ⟨o, h1, h2, _⟩ := hs; ⟨o, h1, h2⟩
  have fits : sizeOk (.seq us.reverse.toArray) := by
    show us.reverse.toArray.size ≤ sizeLine
    rw [List.size_toArray, List.length_reverse]; exact small
  unfold getItem
  first | refine wpAny_holding ?_ | skip
  first | refine wpAny_bind (wpAny_pure ?_) | skip
  refine wpAny_bind (wpAny_sequenceKey ht.typeIs (by decide) ?_)
  refine wpAny_bind (wpAny_callSpecial?_slot (name := Str.ofString "__getitem__") ht.typeIs PyProof.Rows.slot_tuple_getitem (wpAny_call_entry PyProof.Rows.slot_tuple_getitem ht.typeIs entry_tuple_getitem ?_ (args_tuple_getitem _ _)))
  show wpAny _ _ (Builtin.Tuple.tupleItemsOf (.ref t) >>= _) _ _ s
  refine wpAny_bind (tupleItemsOf_ ht (wpAny_bind (wpAny_typeOf isS ?_)))
  rw [if_pos (by decide)]
  have len : ((us.toArray.size : Nat) : Int) = ((us.length : Nat) : Int) := by rw [List.size_toArray]
  rw [len]
  refine wpAny_bind (applied_back hs ps ?_)
  have no : ¬ ((((us.length : Nat) : Int) - 1 == 0 && (-1 : Int) == 1 && us.length == us.toArray.size) = true) := by simp
  show wpAny _ _ (if (((us.length : Nat) : Int) - 1 == 0 && (-1 : Int) == 1 && us.length == us.toArray.size) = true then _ else _) _ _ s
  rw [if_neg no, pick_back]
  have fin : wpAny (model prog w) A (pure (Value.ref s.heap.objs.size)) Q E { s with heap := s.heap.push { cls := .type "tuple", data := .seq us.reverse.toArray } } := wpAny_pure h
  exact wpAny_bind (m := Builtin.Tuple.tupleExact _) (wpAny_newObj_type (wpAny_pure ⟨_, rfl, fin⟩) fits)
end
def tRevT (K : PySem.W.Frag) (te : TE) : TE := fun σ H Q => te σ H fun x H1 => ∃ a xs, x = .ref a ∧ SqT K H1 a xs ∧ ∀ p, H1 p = none → Q (.ref p) (upd H1 p (.tup xs.reverse))
theorem pe_revT {X : Cx} {e : Expr} {te : TE} {k : Nat} {p1 p2 p3 pos : Pos} (he : PE X e te) : PE X (.Subscript e (.Slice none none (some (.UnaryOp .USub (.Constant (.int 1) k p1) p2)) p3) pos) (tRevT X.K te) := by
  refine ⟨fun pins s σ H Q I h => Subscript_ (thn (he.run pins s σ H _ I h) fun v s1 ⟨x, H1, I1, r1, a, xs, ex, hx, q⟩ => ?_)⟩
  subst ex
  cases r1
  refine wpAny_Slice (thn (po_none.run pins s1 σ H1 (fun o H2 => o = none ∧ H2 = H1) I1 ⟨rfl, rfl⟩) fun vl s2 ⟨l, H2, I2, pl, el, e2⟩ => ?_)
  subst el e2
  refine thn (po_none.run pins s2 σ H2 (fun o H3 => o = none ∧ H3 = H2) I2 ⟨rfl, rfl⟩) fun vu s3 ⟨u, H3, I3, pu, eu, e3⟩ => ?_
  subst eu e3
  have last : PO X (some (.UnaryOp .USub (.Constant (.int 1) k p1) p2)) (tPart (tUn (rU fun i => .int (-i)) (tC (.int 1)))) := po_some (pe_un un_neg pe_int)
  refine thn (last.run pins s3 σ H3 (fun o H4 => o = some (-1) ∧ H4 = H3) I3 ⟨1, rfl, -1, rfl, rfl, rfl⟩) fun vs s4 ⟨o, H4, I4, ps, eo, e4⟩ => ?_
  subst eo e4
  cases pl
  cases pu
  have I5 : Inv X pins σ H4 { s4 with heap := s4.heap.push { cls := .type "slice", data := .fields #[.none, .none, vs] } } := I4.kept (t' := s4.toks) fun b ob z => Heap.get?_push_of_some _ z
  obtain ⟨us, rel, ht, small⟩ := I5.tuple hx
  show wpAny (model X.prog X.w) X.A (subscriptTail e (.Slice none none (some (.UnaryOp .USub (.Constant (.int 1) k p1) p2)) p3) (.ref a) (.ref s4.heap.objs.size)) (EP X pins σ Q) X.xe { s4 with heap := s4.heap.push { cls := .type "slice", data := .fields #[.none, .none, vs] } }
  refine tail_any (ops := [.ref a, .ref s4.heap.objs.size]) ht.typeIs (PyProof.Rows.slot_tuple_getitem.lookup) ?_ (by with_unfolding_all rfl)
  refine item_back ht (Heap.IsSliceOf.new _ .none .none vs) ps (by have := rel.length; omega) ?_
  refine ⟨.ref _, _, I5.laid (t' := s4.toks) (o := .tup xs.reverse) (fun b ob z => Heap.get?_push_of_some _ z) (Nat.le_refl _) ?_, rfl, q _ (I5.hok.fresh (Nat.le_refl _))⟩
  exact ⟨by rw [List.length_reverse]; have := rel.length; omega, _, rel.reverse, IsTup.new _ _⟩
/-- t[::-1] -/
def sRevT : Sem1T := fun a q _ => match a with | .tup xs => q (.tup xs.reverse) | _ => False
theorem de_revT {X : Cx} {g : Gd} {E : XK} {m : List Nat} {e : Expr} {fe : FE} {k : Nat} {p1 p2 p3 pos : Pos} (h : DB X g E m e fe) : DE X g E m (.Subscript e (.Slice none none (some (.UnaryOp .USub (.Constant (.int 1) k p1) p2)) p3) pos) (f1 sRevT fe) :=
  de_1 (r := fun v H Q => ∃ a xs, v = .ref a ∧ SqT X.K H a xs ∧ ∀ p, H p = none → Q (.ref p) (upd H p (.tup xs.reverse))) (pe_revT h) fun g E H F v a q x Q r ia hs hq hx => by
  unfold sRevT at hs
  split at hs
  · obtain ⟨p, ys, rfl, h1, h2⟩ := ia.tup
    exact ⟨_, _, rfl, r.sub.sqT h1, fun l hl => hq _ _ (upd F l (.tup ys.reverse)) _ (r.new hl) (.tup (.inl (.inl upd_same)) (h2.reverse.up (r.new (o := .tup ys.reverse) hl).f0)) hs⟩
  · exact hs.elim
end DL

/-! DL12: enumerate of a tuple; enumerate, zip over data. -/
namespace DL
open PySem PySem.Spec PyProof.Rows L2
theorem enum_new {v : Value} {o : Obj} {Hh : Heap → Prop} (B : Begins v o Hh) :
    Meets (Builtin.«enumerate.__new__» ⟨[.type "enumerate", v], []⟩) (fun _ R s => Hh s.heap ∧
      R (.ok (.ret (.ref (s.heap.push o).objs.size))) { s with heap := (s.heap.push o).push { cls := .type "enumerate", data := .fields #[.none, .bool false, .ref s.heap.objs.size, rawInt 0, .none, .none] } }) :=
  .of_wp fun prog w A R s h => by
    obtain ⟨hp, gs, dr, tk, os⟩ := s
    obtain ⟨there, h⟩ := h
    have sub := sub_enumerate
    have it : ∀ {A' : Around} {E : Value → Shared → Prop} {Q : Value → Shared → Prop}, Q (.ref hp.objs.size) ⟨hp.push o, gs, dr, tk, os⟩ → wpAny (model prog w) A' (pyIter v) Q E ⟨hp, gs, dr, tk, os⟩ :=
      fun z => B.iter prog w _ _ ⟨hp, gs, dr, tk, os⟩ _ there z
    wp_walk using it
    refine wpAny_stack_any fun st => wpAny_pure ?_
    split
    · rename_i c _ _ _ _ _
      cases (c == Value.type "enumerate") <;> (wp_walk using it; exact ⟨_, rfl, h⟩)
    · wp_walk using it
      exact ⟨_, rfl, h⟩
theorem enum_call {prog : Program} {w : World} {A : Around} {E : Value → Shared → Prop} {s : Shared} {v : Value} {o : Obj} {Hh : Heap → Prop} {Q : Value → Shared → Prop} (B : Begins v o Hh) (h1 : Hh s.heap)
    (h : ∀ h', IsEnum h' (s.heap.objs.size + 1) s.heap.objs.size 0 .none → h'.get? s.heap.objs.size = some o → h'.objs.size = s.heap.objs.size + 2 → (∀ b u, s.heap.get? b = some u → h'.get? b = some u) →
      Q (.ref (s.heap.objs.size + 1)) { s with heap := h' }) : wpAny (model prog w) A (call (.type "enumerate") [v]) Q E s := by
  have sz : (s.heap.push o).objs.size = s.heap.objs.size + 1 := Heap.size_push ..
  refine callType_new F.called_enumerate (by decide) (F.typeCall_enumerate_1 _) (F.newCall_enumerate_1 _) (fun obj => F.args_object_init_2 obj _) F.entry_enumerate_new (enum_new B) ⟨h1, ?_⟩
  have last := Heap.get?_push_size (s.heap.push o) (o := { cls := .type "enumerate", data := .fields #[.none, .bool false, .ref s.heap.objs.size, rawInt 0, .none, .none] }) rfl
  rw [sz] at last ⊢
  exact ⟨⟨_, last, rfl⟩, h _ last (Heap.get?_push_of_some _ (Heap.get?_push_size _ B.free)) (by rw [Heap.size_push, sz]) fun b u z => Heap.get?_push_of_some _ (Heap.get?_push_of_some _ z)⟩
/-- the tuple at a as it stands, its items with their places in new pairs -/
def IteT (K : PySem.W.Frag) (a : Addr) : It where
  go := fun i H => ∃ (xs : List V) (x : V), SqT K H a xs ∧ xs[i]? = some x
  yld := fun i H v H' => ∃ T x, v = .ref T ∧ H T = none ∧ H' = upd H T (.tup [.int (i : Nat), x]) ∧ ∀ xs, SqT K H a xs → xs[i]? = some x
  stop := fun i H => ∃ xs : List V, SqT K H a xs ∧ xs.length ≤ i
/-- a tuple's iterator at its end gives nothing more -/
theorem no_more {prog : Program} {w : World} {A : Around} (quiet : A.handled = none) (it t : Addr) (i : Nat) (items : Array Value) (over : items[i]? = none) :
    Draws prog w A it [it, t] i (fun _ _ => False) (fun j h => h.IsTupleIter it t j ∧ h.IsTuple t items ∧ j = i) where
  live := fun _ _ ⟨⟨o, ho, _⟩, _⟩ => ⟨o, ho⟩
  frame := fun _ _ _ ⟨h1, h2, h3⟩ k => ⟨h1.at fun o z => k it (by simp) o z, h2.at fun o z => k t (by simp) o z, h3⟩
  item := fun j s Q E lt ⟨_, _, e⟩ _ => absurd e (Nat.ne_of_lt lt)
  done := fun s Q E ⟨h1, h2, _⟩ hE => wpAny_nextOf_tuple_end quiet h1 h2 over hE
theorem turn_enumT {P : Program} {w : World} {K : PySem.W.Frag} {elts : List Expr} {kk : Nat} {tpos : Pos} (a e it : Addr) (hea : e ≠ a) (hia : it ≠ a) :
    Turn P w K (.Tuple elts kk tpos) (IteT K a) [e, it] e (fun i h => (∃ old, IsEnum h e it ((i : Nat) : Int) old) ∧ h.IsTupleIter it a i ∧ e ≠ it) where
  mem := List.mem_cons_self ..
  obj := fun i h ⟨⟨old, en⟩, ⟨ob, h1, _, h3⟩, _⟩ b hb => by
    rcases List.mem_cons.mp hb with rfl | hb
    · exact ⟨_, en, fun v z => nomatch z⟩
    · rcases List.mem_cons.mp hb with rfl | hb
      · exact ⟨ob, h1, fun v z => by rw [h3] at z; cases z⟩
      · cases hb
  keep := fun i h h' ⟨⟨old, en⟩, hi, ne⟩ k => ⟨⟨old, k e (by simp) _ en⟩, hi.at fun o z => k it (by simp) o z, ne⟩
  item := by
    intro X hP hw hK hc i pins s σ H E I hf st hg
    subst hP hw hK
    obtain ⟨⟨old, en⟩, hit, ne⟩ := st
    obtain ⟨xs, x, hq, hx⟩ := hg
    obtain ⟨us, rel, p, _⟩ := I.tuple hq
    obtain ⟨u, hu, ru⟩ := rel.get hx
    have le : e < s.heap.objs.size := Heap.lt_size en
    have li : it < s.heap.objs.size := by obtain ⟨_, z, _⟩ := hit; exact Heap.lt_size z
    have D := Draws.tuple (prog := X.prog) (w := X.w) (A := X.A.in1) (show X.A.in1.handled = none from I.ok.hd hc) it a (Ne.symm hia) us.toArray
    have lt : i < us.toArray.size := by
      have := (List.getElem?_eq_some_iff.mp hu).1
      simpa using this
    refine wpAny_pyNext_enum_itemD D en ⟨hit, p⟩ lt ne (by simp [ne, hea]) fun y h' tk hy ho hs' hT hsz hk => ?_
    obtain rfl : y = u := by
      have : us.toArray[i]? = some u := by simpa using hu
      rw [this] at hy
      exact (Option.some.inj hy).symm
    refine ⟨_, rfl, wpAny_letOwnedTupleGo_enum (s := { s with heap := h', toks := tk + 1 }) ho fun h'' he' sb => ?_⟩
    have hT2 : h''.get? s.heap.objs.size = some { cls := .type "tuple", data := .seq #[.int i tk, y] } := (sb.2 _ (Nat.ne_of_gt le)).trans hT
    have new : ObjOk X.prog X.w (upd H s.heap.objs.size (.tup [.int (i : Nat), x])) h'' s.heap.objs.size (.tup [.int (i : Nat), x]) :=
      ⟨(by decide : (2 : Nat) ≤ sizeLine), [.int i tk, y], .cons ⟨_, rfl⟩ (.cons ru .nil), ⟨_, hT2, rfl, _, rfl⟩⟩
    have I1 : Inv X pins σ (upd H s.heap.objs.size (.tup [.int (i : Nat), x])) { s with heap := h'', toks := tk + 1 } :=
      I.turnedNew (ch := [e, it]) (fun b ob hb z => (sb.2 b (fun q => hb (by simp [q]))).trans (hk b ob (fun q => hb (by simp [q])) (fun q => hb (by simp [q])) z)) hf (Nat.le_refl _) new
    refine ⟨.ref s.heap.objs.size, _, I1, rfl, ⟨_, x, rfl, I.hok.fresh (Nat.le_refl _), rfl, fun ys hy => by rw [I.tuple_inj hy hq]; exact hx⟩, ⟨⟨y, ?_⟩, hs'.1.at fun o z => (sb.2 it (Ne.symm ne)).trans z, ne⟩, fun b hb => ?_⟩
    · have e1 : ((i + 1 : Nat) : Int) = (i : Int) + 1 := Int.natCast_succ i
      rw [e1]; exact he'
    · have lb : b < s.heap.objs.size := by
        rcases List.mem_cons.mp hb with rfl | hb
        · exact le
        · rcases List.mem_cons.mp hb with rfl | hb
          · exact li
          · cases hb
      rw [upd_ne (Nat.ne_of_lt lb)]
      exact (hf b hb).1
  done := by
    intro X hP hw hK hc i pins s σ H E I hf st hg
    subst hP hw hK
    obtain ⟨⟨old, en⟩, hit, ne⟩ := st
    obtain ⟨xs, hq, hx⟩ := hg
    obtain ⟨us, rel, p, _⟩ := I.tuple hq
    have over : us.toArray[i]? = none := by
      have := rel.length
      simp
      omega
    have D := no_more (prog := X.prog) (w := X.w) (A := X.A.in1) (I.ok.hd hc) it a i us.toArray over
    obtain ⟨f0, f1, f2, f3, f4, f5⟩ := hf it (by simp)
    exact wpAny_pyNext_enum_endD D en ⟨hit, p, rfl⟩ fun h' eb => ⟨rfl, I.turned (t' := s.toks) eb f0 f1 f3 f4 f5⟩
  self := fun A i s Q E ⟨⟨_, en⟩, _⟩ h => wpAny_pyIter_enum en h
/-- enumerate over a list or a tuple -/
def iEnA (K : PySem.W.Frag) (ta : TA) : TI := fun σ H R => ta σ H fun vs H1 => ∃ a xs, vs = [.ref a] ∧ SqT K H1 a xs ∧ R (IteT K a) H1
theorem pi_enumT {X : Cx} {e : Expr} {ta : TA} {p pos tpos : Pos} {elts : List Expr} {kk : Nat} (hg : Gl X "enumerate") (hm : X.mg "enumerate" = none) (ha : PA X [e] ta) (hs : starEach [e] X.env = [(false, eval e X.env)] := by rfl) :
    PI X (.Tuple elts kk tpos) (.Call (.Name "enumerate" p) [e] [] pos) (iEnA X.K ta) := by
  refine ⟨fun pins s σ H R I h => Call_ (ld_blt I hg hm boot_enumerate (PyProof.Rows.callWith_type1 (thn (ha.run pos pins s σ H _ I h) fun us s1 ⟨vs, H1, I1, r1, a, xs, ex, hq, q⟩ => ?_) hs rfl))⟩
  subst ex
  obtain ⟨u, rfl, ru⟩ := vals1 r1
  cases ru
  obtain ⟨its, rel, p', _⟩ := I1.tuple hq
  have la : a < s1.heap.objs.size := by obtain ⟨_, z, _⟩ := p'; exact Heap.lt_size z
  refine enum_call (begins_tuple a its.toArray) p' fun h' en hit hsz hk => wpAny_pyIter_enum en ?_
  have I2 : Inv X pins σ H1 { s1 with heap := h' } := I1.kept (t' := s1.toks) hk
  refine ⟨s1.heap.objs.size + 1, [s1.heap.objs.size + 1, s1.heap.objs.size], _, _, H1, rfl, I2, turn_enumT a (s1.heap.objs.size + 1) s1.heap.objs.size (Nat.ne_of_gt (Nat.lt_succ_of_lt la)) (Nat.ne_of_gt la), ⟨⟨.none, en⟩, ⟨_, hit, rfl, rfl⟩, Nat.succ_ne_self _⟩, fun b hb => ?_, q⟩
  have new : s1.heap.objs.size ≤ b := by
    rcases List.mem_cons.mp hb with rfl | hb
    · exact Nat.le_succ _
    · rcases List.mem_cons.mp hb with rfl | hb
      · exact Nat.le_refl _
      · cases hb
  exact I1.fpOk new (I1.hok.fresh new)
/-! ### over data -/
section
variable {X : Cx} {g : Gd} {E : XK} {m : List Nat} {e e2 : Expr} {fe fe2 : FE} {p pos tpos : Pos} {elts : List Expr} {kk : Nat}
/-- the items with their places -/
def enumD (ds : List D) : List D := ds.mapIdx fun i d => .tup [.int (i : Nat), d]
theorem yl_enumT {K : PySem.W.Frag} {F : Hp} {a : Addr} {vs : List V} {ds : List D} (h : SqT K F a vs) (ha : IsAll K F vs ds) : Yl K (IteT K a) F (enumD ds) where
  go := fun i H ex hi => by
    obtain ⟨v, e1, _⟩ := ha.get (List.getElem?_eq_getElem (show i < ds.length by simpa [enumD] using hi))
    exact ⟨vs, v, ex.sqT h, e1⟩
  yl := fun g i d H F1 x H' r ex hd hy => by
    obtain ⟨T, y, rfl, hT, rfl, hy⟩ := hy
    unfold enumD at hd
    rw [List.getElem?_mapIdx] at hd
    cases hd2 : ds[i]? with
    | none => rw [hd2] at hd; cases hd
    | some d2 =>
      rw [hd2] at hd
      obtain ⟨v, e1, e2⟩ := ha.get hd2
      have := hy vs (r.sub.sqT (ex.sqT h))
      rw [e1] at this
      cases this
      cases hd
      exact ⟨upd F1 T _, r.new hT, .tup (.inl (.inl upd_same)) (.cons (.int _) (.cons (e2.up (ex.trans (upd_ex (r.freeF hT)))) .nil))⟩
  stop := fun i H ex hi => ⟨vs, ex.sqT h, by rw [ha.length]; simpa [enumD] using hi⟩
theorem yl_enumL {K : PySem.W.Frag} {F : Hp} {a : Addr} {vs : List V} {ds : List D} (h : F a = some (.lst vs)) (ha : IsAll K F vs ds) : Yl K (Ite K a) F (enumD ds) where
  go := fun i H ex hi => by
    obtain ⟨v, e1, _⟩ := ha.get (List.getElem?_eq_getElem (show i < ds.length by simpa [enumD] using hi))
    exact ⟨vs, v, .inl (.inl (ex _ _ h)), e1⟩
  yl := fun g i d H F1 x H' r ex hd hy => by
    obtain ⟨T, y, rfl, hT, rfl, hy⟩ := hy
    unfold enumD at hd
    rw [List.getElem?_mapIdx] at hd
    cases hd2 : ds[i]? with
    | none => rw [hd2] at hd; cases hd
    | some d2 =>
      rw [hd2] at hd
      obtain ⟨v, e1, e2⟩ := ha.get hd2
      have := hy vs (.inl (.inl (r.sub _ _ (ex _ _ h))))
      rw [e1] at this
      cases this
      cases hd
      exact ⟨upd F1 T _, r.new hT, .tup (.inl (.inl upd_same)) (.cons (.int _) (.cons (e2.up (ex.trans (upd_ex (r.freeF hT)))) .nil))⟩
  stop := fun i H ex hi => ⟨vs, .inl (.inl (ex _ _ h)), by rw [ha.length]; simpa [enumD] using hi⟩
def fEnT (f : FE) : FI := fun ρ q x => f ρ (fun d => match d with | .tup xs => q (enumD xs) | _ => False) x
def fEnL (f : FE) : FI := fun ρ q x => f ρ (fun d => match d with | .lst xs => q (enumD xs) | _ => False) x
theorem di_enumT (hg : Gl X "enumerate") (hm : X.mg "enumerate" = none) (h : DE X g E m e fe) (hs : starEach [e] X.env = [(false, eval e X.env)] := by rfl) : DI X g E m (.Tuple elts kk tpos) (.Call (.Name "enumerate" p) [e] [] pos) (fEnT fe) := PIimp (pi_enumT hg hm (pa_cons h pa_nil hs) hs) fun σ H R ⟨H0, F0, F, ρ, q, x, Rl, hf, hq, hx⟩ =>
  ⟨H0, F0, F, ρ, _, x, Rl, hf, fun v H' F' d r i hd => by
    split at hd
    · cases i with
      | tup h1 h2 => exact ⟨_, _, rfl, (Rl.step r).fr.sub.sqT h1, hq _ H' F' _ r (yl_enumT h1 h2) hd⟩
    · exact hd.elim, hx⟩
theorem di_enumL (hg : Gl X "enumerate") (hm : X.mg "enumerate" = none) (h : DE X g E m e fe) (hs : starEach [e] X.env = [(false, eval e X.env)] := by rfl) : DI X g E m (.Tuple elts kk tpos) (.Call (.Name "enumerate" p) [e] [] pos) (fEnL fe) := PIimp (pi_enum hg hm (pa_cons h pa_nil hs) hs) fun σ H R ⟨H0, F0, F, ρ, q, x, Rl, hf, hq, hx⟩ =>
  ⟨H0, F0, F, ρ, _, x, Rl, hf, fun v H' F' d r i hd => by
    split at hd
    · cases i with
      | lst h1 h2 => exact ⟨_, _, rfl, .inl (.inl ((Rl.step r).fr.sub _ _ h1)), hq _ H' F' _ r (yl_enumL h1 h2) hd⟩
    · exact hd.elim, hx⟩
/-! zip of two tuples, of two lists -/
def zipD (xs ys : List D) : List D := (xs.zip ys).map fun p => .tup [p.1, p.2]
theorem zipD_at {xs ys : List D} {i : Nat} {d : D} (h : (zipD xs ys)[i]? = some d) : ∃ a b, xs[i]? = some a ∧ ys[i]? = some b ∧ d = .tup [a, b] := by
  unfold zipD at h
  rw [List.getElem?_map] at h
  cases hz : (xs.zip ys)[i]? with
  | none => rw [hz] at h; cases h
  | some p =>
    rw [hz] at h
    cases h
    obtain ⟨h1, h2⟩ := List.getElem?_zip_eq_some.mp hz
    exact ⟨_, _, h1, h2, rfl⟩
theorem zipD_len (xs ys : List D) : (zipD xs ys).length = min xs.length ys.length := by simp [zipD]
theorem yl_zipT {K : PySem.W.Frag} {F : Hp} {a b : Addr} {vs ws : List V} {ds es : List D} (h : SqT K F a vs) (h' : SqT K F b ws) (ha : IsAll K F vs ds) (hb : IsAll K F ws es) : Yl K (RZ.ItzT K a b) F (zipD ds es) where
  go := fun i H ex hi => by
    rw [zipD_len] at hi
    obtain ⟨v, e1, _⟩ := ha.get (List.getElem?_eq_getElem (show i < ds.length by omega))
    obtain ⟨w, e2, _⟩ := hb.get (List.getElem?_eq_getElem (show i < es.length by omega))
    exact ⟨vs, ws, v, w, ex.sqT h, ex.sqT h', e1, e2⟩
  yl := fun g i d H F1 x H' r ex hd hy => by
    obtain ⟨T, y, z, rfl, hT, rfl, hy, hz⟩ := hy
    obtain ⟨d1, d2, q1, q2, rfl⟩ := zipD_at hd
    obtain ⟨v, e1, i1⟩ := ha.get q1
    obtain ⟨w, e2, i2⟩ := hb.get q2
    have t1 := hy vs (r.sub.sqT (ex.sqT h))
    have t2 := hz ws (r.sub.sqT (ex.sqT h'))
    rw [e1] at t1
    rw [e2] at t2
    cases t1
    cases t2
    have up := ex.trans (upd_ex (o := .tup [y, z]) (r.freeF hT))
    exact ⟨upd F1 T _, r.new hT, .tup (.inl (.inl upd_same)) (.cons (i1.up up) (.cons (i2.up up) .nil))⟩
  stop := fun i H ex hi => ⟨vs, ws, ex.sqT h, ex.sqT h', by rw [zipD_len] at hi; rw [ha.length, hb.length]; omega⟩
theorem yl_zipL {K : PySem.W.Frag} {F : Hp} {a b : Addr} {vs ws : List V} {ds es : List D} (h : F a = some (.lst vs)) (h' : F b = some (.lst ws)) (ha : IsAll K F vs ds) (hb : IsAll K F ws es) : Yl K (Itz K a b) F (zipD ds es) where
  go := fun i H ex hi => by
    rw [zipD_len] at hi
    obtain ⟨v, e1, _⟩ := ha.get (List.getElem?_eq_getElem (show i < ds.length by omega))
    obtain ⟨w, e2, _⟩ := hb.get (List.getElem?_eq_getElem (show i < es.length by omega))
    exact ⟨vs, ws, v, w, .inl (.inl (ex _ _ h)), .inl (.inl (ex _ _ h')), e1, e2⟩
  yl := fun g i d H F1 x H' r ex hd hy => by
    obtain ⟨T, y, z, rfl, hT, rfl, hy, hz⟩ := hy
    obtain ⟨d1, d2, q1, q2, rfl⟩ := zipD_at hd
    obtain ⟨v, e1, i1⟩ := ha.get q1
    obtain ⟨w, e2, i2⟩ := hb.get q2
    have t1 := hy vs (.inl (.inl (r.sub _ _ (ex _ _ h))))
    have t2 := hz ws (.inl (.inl (r.sub _ _ (ex _ _ h'))))
    rw [e1] at t1
    rw [e2] at t2
    cases t1
    cases t2
    have up := ex.trans (upd_ex (o := .tup [y, z]) (r.freeF hT))
    exact ⟨upd F1 T _, r.new hT, .tup (.inl (.inl upd_same)) (.cons (i1.up up) (.cons (i2.up up) .nil))⟩
  stop := fun i H ex hi => ⟨vs, ws, .inl (.inl (ex _ _ h)), .inl (.inl (ex _ _ h')), by rw [zipD_len] at hi; rw [ha.length, hb.length]; omega⟩
def fZip (f f' : FE) : FI := fun ρ q x => f ρ (fun d => f' ρ (fun e => match d, e with | .tup xs, .tup ys => q (zipD xs ys) | .lst xs, .lst ys => q (zipD xs ys) | _, _ => False) x) x
theorem di_zip (hg : Gl X "zip") (hm : X.mg "zip" = none) (h : DE X g E m e fe) (h' : DE X g E m e2 fe2) (hs : starEach [e, e2] X.env = (false, eval e X.env) :: starEach [e2] X.env := by rfl) (hs2 : starEach [e2] X.env = (false, eval e2 X.env) :: starEach [] X.env := by rfl) (hpl : (backTo pos (starEach [e2] X.env)).any (·.1) = false := by rfl) :
    DI X g E m (.Tuple elts kk tpos) (.Call (.Name "zip" p) [e, e2] [] pos) (fZip fe fe2) := PIimp (RZ.pi_zipA hg hm (pa_cons h (pa_cons h' pa_nil hs2) hs) hs hpl) fun σ H R ⟨H0, F0, F, ρ, q, x, Rl, hf, hq, hx⟩ =>
  ⟨H0, F0, F, ρ, _, x, Rl, hf, fun v H1 F1 d r1 i1 hd => ⟨H0, F0, F1, ρ, _, x, Rl.step r1, hd, fun w H2 F2 d2 r2 i2 hd => by
    have S := ((Rl.step r1).step r2).fr.sub
    have i1 := i1.up r2.f0
    split at hd
    · cases i1 with
      | tup a1 a2 => cases i2 with
        | tup b1 b2 => exact ⟨_, _, _, _, rfl, .inr ⟨S.sqT a1, S.sqT b1, hq _ H2 F2 _ (r1.trans r2) (yl_zipT a1 b1 a2 b2) hd⟩⟩
    · cases i1 with
      | lst a1 a2 => cases i2 with
        | lst b1 b2 => exact ⟨_, _, _, _, rfl, .inl ⟨.inl (.inl (S _ _ a1)), .inl (.inl (S _ _ b1)), hq _ H2 F2 _ (r1.trans r2) (yl_zipL a1 b1 a2 b2) hd⟩⟩
    · exact hd.elim, hx.step r1⟩, hx⟩
end
end DL

/-! DL13: lists of ours that are changed; all, any; name += e. -/
namespace DL
open PySem PySem.Spec PyProof.Rows L2
section
variable {K : PySem.W.Frag} {g : Gd} {H0 F0 H F : Hp} {m : List Nat} {σ : L2.St} {ρ : Ro}
/-- the list that the slot i holds, to be written -/
theorem Rel.mut (R : Rel K g H0 F0 m σ H F ρ) {i : Nat} (hi : i ∈ m) : ∃ p vs xs, σ[i]? = some (some (.ref p)) ∧ ρ[i]? = some (some (.lst xs)) ∧ H p = some (.lst vs) ∧ IsAll K F vs xs ∧
    ∀ vs' xs', IsAll K F vs' xs' → Rel K g H0 F0 m σ (upd H p (.lst vs')) F (ρ.set i (some (.lst xs'))) := by
  obtain ⟨oa, h1, h2⟩ := R.own
  obtain ⟨vs, xs, e1, e2, e3, e4, e5, e6⟩ := h1 i hi
  have il : i < ρ.length := (List.getElem?_eq_some_iff.mp e2).1
  refine ⟨oa i, vs, xs, e1, e2, e3, e4, fun vs' xs' ha => ⟨R.fr.write e6 e5, by rw [List.length_set]; exact R.len, fun j d hj hm => ?_, oa, fun j hj => ?_, h2⟩⟩
  · rcases set_get hj with ⟨rfl, _⟩ | ⟨_, hj⟩
    · exact absurd hi hm
    · exact R.vals j d hj hm
  · by_cases e : j = i
    · subst e
      exact ⟨vs', xs', e1, List.getElem?_set_self il, upd_same, ha, e5, e6⟩
    · obtain ⟨ws, ys, q1, q2, q3, q4⟩ := h1 j hj
      have ne : oa j ≠ oa i := fun z => e (h2 j hj i hi z)
      exact ⟨ws, ys, q1, by rw [List.getElem?_set_ne (Ne.symm e)]; exact q2, by rw [upd_ne ne]; exact q3, q4⟩
end
def fApp (i : Nat) (f : FE) : FS := fun ρ d => f ρ (fun a => match ρ[i]? with | some (some (.lst xs)) => xs.length < LN ∧ d.nx (ρ.set i (some (.lst (xs ++ [a])))) | _ => False) d.x
def fPop (i : Nat) : FS := fun ρ d => match ρ[i]? with | some (some (.lst xs)) => xs ≠ [] ∧ d.nx (ρ.set i (some (.lst xs.dropLast))) | _ => False
/-- name[e] = v -/
def fPut (i : Nat) (fi fv : FE) : FS := fun ρ d => fv ρ (fun a => fi ρ (fun k => match k, ρ[i]? with | .int k, some (some (.lst xs)) => (match ixN xs.length k with | some j => d.nx (ρ.set i (some (.lst (xs.set j a)))) | none => False) | _, _ => False) d.x) d.x
def fAugI (i : Nat) (h : Int → Int → Int) (f : FE) : FS := fun ρ d => match ρ[i]? with
  | some (some (.int x)) => f ρ (fun a => match a with | .int y => d.nx (ρ.set i (some (.int (h x y)))) | _ => False) d.x
  | _ => False
section
variable {X : Cx} {g : Gd} {E : XK} {kd : Bool} {mb m : List Nat} {e e2 : Expr} {fe fe2 : FE} {pos p apos cpos : Pos}
theorem ds_app {i : Nat} {o : Expr} (ho : PE X o (tVar i)) (hm : m.contains i = true) (h : DE X g E m e fe) (hs : swapsWith (.Call (.Attribute o "append" apos) [e] [] cpos) none pos.line X.env = pure false := by rfl)
    (hbase : attributeBase o "append" X.env (eval o X.env) = eval o X.env := by rfl)
    (hfew : ((backTo cpos (starEach [e] X.env)).all (fun x => !x.1) && (backToKw cpos (keywordEach [] X.env)).all (fun x => x.1.isSome) && decide (([e] : List Expr).length + ([] : List Keyword).length + (if ([] : List Keyword).isEmpty then 0 else 1) < 30)) = true := by rfl)
    (hline : (apos.endLine == cpos.line) = true := by rfl) (hst : starEach [e] X.env = (false, eval e X.env) :: starEach [] X.env := by rfl) (hplain : (backTo cpos (starEach ([] : List Expr) X.env)).any (·.1) = false := by rfl) :
    DS X g E kd mb m m (.Expr (.Call (.Attribute o "append" apos) [e] [] cpos) pos) (fApp i fe) :=
  PSimp (ps_expr (pe_bm PySem.F.plainAttrs_list PySem.F.slot_list_append PySem.F.type_list_append mt_append ho (pa_cons h pa_nil hst) hbase hfew hline hst hplain) hs) fun D σ H ⟨H0, F0, F, ρ, d, R, hf, h1, h2, h3, h4, h5⟩ => by
  obtain ⟨p0, vs0, xs0, s1, s2, s3, _⟩ := R.mut (i := i) (by simpa using hm)
  refine ⟨_, s1, .inl ⟨rfl, vs0, .inl (.inl s3)⟩, H0, F0, F, ρ, _, d.x, R, hf, fun v H1 F1 a r is hd => ?_, h5.step R.fr⟩
  obtain ⟨p, vs, xs, q1, q2, q3, q4, q5⟩ := (R.step r).mut (i := i) (by simpa using hm)
  rw [s1] at q1
  cases q1
  rw [q2] at hd
  exact ⟨_, vs, v, rfl, rfl, q3, LN_lt (by rw [q4.length]; exact Nat.le_of_lt hd.1), h1 σ _ F1 _ (q5 _ _ (q4.append (.cons is .nil))) r.f0 hd.2⟩
theorem ds_pop {i : Nat} {o : Expr} (ho : PE X o (tVar i)) (hm : m.contains i = true) (hs : swapsWith (.Call (.Attribute o "pop" apos) [] [] cpos) none pos.line X.env = pure false := by rfl)
    (hbase : attributeBase o "pop" X.env (eval o X.env) = eval o X.env := by rfl) (hline : (apos.endLine == cpos.line) = true := by rfl) :
    DS X g E kd mb m m (.Expr (.Call (.Attribute o "pop" apos) [] [] cpos) pos) (fPop i) :=
  PSimp (ps_expr (pe_bm0 PySem.F.plainAttrs_list PySem.F.slot_list_pop PySem.F.type_list_pop mt_pop ho hbase hline) hs) fun D σ H ⟨H0, F0, F, ρ, d, R, hf, h1, h2, h3, h4, h5⟩ => by
  obtain ⟨p, vs, xs, q1, q2, q3, q4, q5⟩ := R.mut (i := i) (by simpa using hm)
  unfold fPop at hf
  rw [q2] at hf
  obtain ⟨hne, hn⟩ := hf
  have hl := q4.length
  have pos : 0 < xs.length := List.length_pos_iff.mpr hne
  obtain ⟨y, hy⟩ : ∃ y, vs[vs.length - 1]? = some y := ⟨_, List.getElem?_eq_getElem (by omega)⟩
  have drop : IsAll X.K F vs.dropLast xs.dropLast := by
    rw [List.dropLast_eq_take, List.dropLast_eq_take, hl]
    exact q4.take _
  exact ⟨_, q1, .inl ⟨rfl, vs, .inl (.inl q3)⟩, _, vs, y, rfl, rfl, q3, hy, h1 σ _ F _ (q5 _ _ drop) (Ex.refl _) hn⟩
theorem ds_put {i : Nat} {o : Expr} (ho : PE X o (tVar i)) (hm : m.contains i = true) (hi : DE X g E m e fe) (hv : DE X g E m e2 fe2)
    (hs : swapsWithSole [.Subscript o e p] e2 pos.line X.env = pure false := by rfl) (hw : swappedStores [.Subscript o e p] e2 X.env = pure none := by rfl) (h1 : (assignEach [.Subscript o e p] X.env).map (·.2) = [assign (.Subscript o e p) X.env] := by rfl)
    (ha : ∀ v, assign (.Subscript o e p) X.env v = (do
      let ov ← holding [v] (eval o X.env)
      let iv ← holding [v, ov] (eval e X.env)
      standAt p
      holding [v, ov, iv] (setItem ov iv v)
      release [v, ov, iv] []) := by intro _; rfl) : DS X g E kd mb m m (.Assign [.Subscript o e p] e2 pos) (fPut i fe fe2) :=
  PSimp (ps_asg hv (pg_sub ho hi set_list ha) hs hw h1) fun D σ H ⟨H0, F0, F, ρ, d, R, hf, n1, n2, n3, n4, n5⟩ => by
  refine ⟨H0, F0, F, ρ, _, d.x, R, hf, fun v H1 F1 a r is hd => ?_, n5.step R.fr⟩
  have R1 := R.step r
  obtain ⟨p0, vs0, xs0, s1, s2, s3, _⟩ := R1.mut (i := i) (by simpa using hm)
  refine ⟨_, s1, H0, F0, F1, ρ, _, d.x, R1, hd, fun k H2 F2 kk r2 is2 hd2 => ?_, (n5.step R.fr).step r⟩
  obtain ⟨q, vs, xs, q1, q2, q3, q4, q5⟩ := (R1.step r2).mut (i := i) (by simpa using hm)
  rw [s1] at q1
  cases q1
  rw [q2] at hd2
  split at hd2
  · rename_i kz xs2 e9
    cases e9
    cases is2
    split at hd2
    · rename_i j hj
      rw [← q4.length] at hj
      exact ⟨_, vs, _, j, rfl, rfl, q3, hj, n1 σ _ F2 _ (q5 _ _ (q4.set (is.up r2.f0) j)) (r.f0.trans r2.f0) hd2⟩
    · exact hd2.elim
  · exact hd2.elim
theorem ds_aug {i : Nat} {x : Str} {op : Operator} {h : Int → Int → Int} {ti : TIp} (hN : X.N.Nodup) (hi : X.N[i]? = some x) (hx : Loc X.env.scope x) (hop : PIp X op ti) (hti : ti = ipI h) (he : DE X g E m e fe) (hm : m.contains i = false := by rfl) (hf : X.fn x = true ∨ X.env.scope.names.lookup x = some .local := by first | exact .inl rfl | exact .inr rfl | assumption) :
    DS X g E kd mb m m (.AugAssign (.Name x p) op e pos) (fAugI i h fe) := PSimp (ps_aug hN hi hx he hop hf) fun D σ H ⟨H0, F0, F, ρ, d, R, hf, h1, h2, h3, h4, h5⟩ => by
  subst hti
  unfold fAugI at hf
  split at hf
  · rename_i z ez
    have hmi : i ∉ m := by simpa using hm
    obtain ⟨v, e1, is1⟩ := R.vals i _ ez hmi
    cases is1
    have il : i < ρ.length := (List.getElem?_eq_some_iff.mp ez).1
    refine ⟨_, e1, H0, F0, F, ρ, _, d.x, R, hf, fun w H1 F1 a r is hd => ?_, h5.step R.fr⟩
    split at hd
    · rename_i y
      cases is
      have R2 := (R.step r).set (i := i) (.int (h z y)) il
      have keep : m.filter (· ≠ i) = m := List.filter_eq_self.mpr fun j hj => by
        have : j ≠ i := fun q => hmi (by rw [← q]; exact hj)
        simpa using this
      rw [keep] at R2
      exact ⟨_, _, rfl, rfl, h1 _ H1 F1 _ R2 r.f0 hd⟩
    · exact hd.elim
  · exact hf.elim
/-- a module's tuple of plain constants -/
theorem conT {K : PySem.W.Frag} {mg : Str → Option Value} {x : Str} {ds : List He.Dv} {dds : List D} (hm : mg x = some (.ref (He.ga K x))) (c : He.tupB K x ds = true) (hd : ∀ F, IsAll K F (ds.map (He.Dv.v K)) dds) : Con K mg x (.tup dds) :=
  ⟨.ref (He.ga K x), _, hm, rfl, fun F => .tup (He.tupB_ok c F) (hd F)⟩
/-! ### all, any -/
def blsD : List D → Option (List Bool)
  | [] => some []
  | .bl b :: r => (blsD r).map (b :: ·)
  | _ => none
theorem blsD_ok {K : PySem.W.Frag} {F : Hp} : ∀ {ds : List D} {bs : List Bool} {vs : List V}, blsD ds = some bs → IsAll K F vs ds → vs = bs.map V.bl
  | [], bs, vs, h, i => by cases i; cases h; rfl
  | d :: r, bs, vs, h, i => by
    cases d <;> first | (cases h; done) | skip
    rename_i b
    cases i with
    | cons i1 i2 =>
      cases i1
      have h' : (blsD r).map (b :: ·) = some bs := h
      cases hr : blsD r with
      | none => rw [hr] at h'; cases h'
      | some cs =>
        rw [hr] at h'
        cases h'
        rw [blsD_ok hr i2] <;> rfl
def sAll : Sem1T := fun a q _ => match a with | .lst ds => (match blsD ds with | some bs => q (.bl (bs.all id)) | none => False) | _ => False
def sAny : Sem1T := fun a q _ => match a with | .lst ds => (match blsD ds with | some bs => q (.bl (bs.any id)) | none => False) | _ => False
theorem de_all (hc : X.calm = true) (hg : Gl X "all") (hm : X.mg "all" = none) (ha : DB X g E m e fe) (hb : bootBuiltins "all" = some (.builtin "all") := by decide +kernel) (h1 : starEach [e] X.env = (false, eval e X.env) :: starEach [] X.env := by rfl) : DE X g E m (.Call (.Name "all" p) [e] [] pos) (f1 sAll fe) :=
  de_1 (r := fun v H Q => rAll X.K [v] H Q) (pe_callB (cr_all hc) hg hm hb (pa_cons ha pa_nil h1) (he := h1)) fun g E H F v a q x Q r ia hs hq hx => by
  unfold sAll at hs
  split at hs
  · split at hs
    · rename_i bs hbs
      obtain ⟨l, ys, rfl, h1, h2⟩ := ia.lst' r.sub
      exact ⟨l, bs, rfl, by rw [← blsD_ok hbs h2]; exact h1, hq _ H F _ r (.bl _) hs⟩
    · exact hs.elim
  · exact hs.elim
theorem de_any (hc : X.calm = true) (hg : Gl X "any") (hm : X.mg "any" = none) (ha : DB X g E m e fe) (hb : bootBuiltins "any" = some (.builtin "any") := by decide +kernel) (h1 : starEach [e] X.env = (false, eval e X.env) :: starEach [] X.env := by rfl) : DE X g E m (.Call (.Name "any" p) [e] [] pos) (f1 sAny fe) :=
  de_1 (r := fun v H Q => rAny X.K [v] H Q) (pe_callB (cr_any hc) hg hm hb (pa_cons ha pa_nil h1) (he := h1)) fun g E H F v a q x Q r ia hs hq hx => by
  unfold sAny at hs
  split at hs
  · split at hs
    · rename_i bs hbs
      obtain ⟨l, ys, rfl, h1, h2⟩ := ia.lst' r.sub
      exact ⟨l, bs, rfl, by rw [← blsD_ok hbs h2]; exact h1, hq _ H F _ r (.bl _) hs⟩
    · exact hs.elim
  · exact hs.elim
end
end DL

/-! DL14: max of three; the deck of two arguments; the other deck. -/
namespace DL
open PySem PySem.Spec PyProof.Rows L2
def mxI (a b : Int) : Int := if a < b then b else a
theorem nuMax2_int (a b : Int) : nuMax2 (.int a) (.int b) = some (.int (mxI a b)) := by
  unfold mxI
  by_cases h : a < b
  · rw [if_pos h]
    show some (if decide (a < b) = true then V.int b else V.int a) = _
    rw [if_pos (decide_eq_true h)]
  · rw [if_neg h]
    show some (if decide (a < b) = true then V.int b else V.int a) = _
    rw [if_neg (by simpa using h)]
def fMax3 (fs : FA) : FE := fun ρ q x => fs ρ (fun ds => match ds with | [.int a, .int b, .int c] => q (.int (mxI (mxI a b) c)) | _ => False) x
theorem de_max3 {X : Cx} {g : Gd} {E : XK} {m : List Nat} {a b c : Expr} {fs : FA} {p pos : Pos} (hc : X.calm = true) (hg : Gl X "max") (hm : X.mg "max" = none) (ha : DA X g E m [a, b, c] fs) (hb : bootBuiltins "max" = some (.builtin "max") := by decide +kernel)
    (he : starEach [a, b, c] X.env = (false, eval a X.env) :: starEach [b, c] X.env := by rfl) (hpl : (backTo pos (starEach [b, c] X.env)).any (·.1) = false := by rfl) : DE X g E m (.Call (.Name "max" p) [a, b, c] [] pos) (fMax3 fs) :=
  PEimp (pe_callB (call_max3Nu hc) hg hm hb ha (he := he) (hpl := hpl)) fun σ H Q ⟨H0, F0, F, ρ, q, x, R, hf, hq, hx⟩ => by
  refine ⟨H0, F0, F, ρ, _, x, R, hf, fun vs H1 F1 ds r i hd => ?_, hx⟩
  split at hd
  · cases i with
    | cons i1 i =>
      cases i with
      | cons i2 i =>
        cases i with
        | cons i3 i =>
          cases i
          cases i1
          cases i2
          cases i3
          exact ⟨_, _, _, _, rfl, by unfold nuMax3; rw [nuMax2_int, Option.bind_some, nuMax2_int], hq _ H1 F1 _ r (.int _) hd⟩
  · exact hd.elim
/-! ### a deck made of the script and a number -/
def spDeck2 (K : PySem.W.Frag) (nm : Str) : Sp := fun vs H Q _ => ∃ (a : Addr) (ns : List Int) (z : Int), vs = [.ref a, .int z] ∧ (-(2 ^ 40) < z ∧ z < 2 ^ 40) ∧ SqL K H a (ns.map V.int) ∧ ns.length ≤ 63 ∧ ∀ H' d l, Ex H H' → H d = none → H l = none → DeckAt nm d l H' → Q (.ref d) H'
section
variable {P : Program} {w : World} {K : PySem.W.Frag} {mg : Str → Option Value} {base : Heap} {x qual nm : Str} {params : Arguments} {body0 body : List Stmt} {scope : Scope} {f : Addr} {fd : FuncData} {N : List Str} {k : Nat} {st0 : Stmt} {z : Int}
/-- as okLaw, the deck made of the script and z -/
theorem okLaw2 (F : FunD K x qual params body0 scope [] [] f fd) (S : FnScope N ["script"] scope) (hb : body0 = st0 :: body) (hN : 2 ≤ N.length) (hz : -(2 ^ 40) < z ∧ z < 2 ^ 40)
    (h0 : ∀ (cdv : Value) (A : Around) (outer : List Env) (s : Shared) (H : Hp) (E : XK), Room k (A.deeper (envOfC qual scope s.heap.objs.size f cdv)) → (A.deeper (envOfC qual scope s.heap.objs.size f cdv)).guards = some [] →
      PS (cxOf CX0 P w K mg base N qual scope f cdv A outer s H E).nox st0 (tAsg (tCall (spDeck2 K nm) [] E (tCons (tVar 0) (tCons (tC (.int z)) tNil))) (gName 1)))
    (hbody : ∀ (cdv : Value) (A : Around) (outer : List Env) (s : Shared) (H : Hp) (E : XK) (a d l : Addr), Room k (A.deeper (envOfC qual scope s.heap.objs.size f cdv)) → (A.deeper (envOfC qual scope s.heap.objs.size f cdv)).guards = some [] →
      ∃ m' fb, DSs (cxOf CX0 P w K mg base N qual scope f cdv A outer s H E).nox (some (nm, d, l)) E false [] [] m' body fb ∧ fb (lawStart N.length a d) lawEnds) :
    FnG P w K mg base CX0 (k + 1) f fd ["script"] (spLaw K) := by
  subst hb
  refine okRaw F S (fun vs H Q E ⟨a, ns, h, _⟩ => by rw [h]; rfl) fun cdv A outer s H vs Q E hr hG ⟨a, ns, hv, hS, hl, hq⟩ => ?_
  subst hv
  have hb2 := fun a d l => hbody cdv A outer s H E a d l hr hG
  let t2 : TS := fun D σ H1 => ∃ (d l : Addr) (m' : List Nat) (fb : FS), DSs (cxOf CX0 P w K mg base N qual scope f cdv A outer s H E).nox (some (nm, d, l)) E false [] [] m' body fb ∧ tS K (some (nm, d, l)) E false [] [] m' fb D σ H1
  refine ⟨tSeq (tAsg (tCall (spDeck2 K nm) [] E (tCons (tVar 0) (tCons (tC (.int z)) tNil))) (gName 1)) t2, PSs.nox (pss_cons (h0 cdv A outer s H E hr hG) ⟨fun pins s' σ H' D I q => ?_⟩), ?_⟩
  · obtain ⟨d, l, m', fb, h1, h2⟩ := q
    exact h1.run pins s' σ H' D I h2
  · have hs : L2.start N [V.ref a] = some (.ref a) :: List.replicate (N.length - 1) none := rfl
    refine ⟨.ref a, by rw [hs]; rfl, a, ns, z, rfl, hz, hS, hl, fun H' d l ex nd nl j => ?_⟩
    obtain ⟨m', fb, h1, h2⟩ := hb2 a d l
    refine ⟨d, l, m', fb, h1, H', fun _ => none, fun _ => none, lawStart N.length a d, lawEnds, ⟨⟨fun _ _ _ e => e, j, fun _ _ e => (nomatch e), Ex.refl _, fun _ _ => rfl, fun b hb => ⟨rfl, Gd.J.has (g := some (nm, d, l)) j hb⟩⟩, ?_, ?_, fun _ => 0, fun i hi => (by cases hi), fun i hi => (by cases hi)⟩, h2, fun _ _ _ _ _ _ z => z.elim, fun _ _ _ _ _ _ z => z.elim, fun _ _ _ _ _ _ z => z.elim, ?_, XE.none⟩
    · rw [hs, List.length_set, List.length_cons, List.length_cons, List.length_cons, List.length_replicate, List.length_replicate]
      omega
    · intro i b hi _
      match i, hi with
      | 0, hi => cases hi; exact ⟨.ref a, by rw [hs]; rfl, .ref a⟩
      | 1, hi =>
        cases hi
        exact ⟨.ref d, List.getElem?_set_self (by rw [hs, List.length_cons, List.length_replicate]; omega), .ref d⟩
      | i + 2, hi =>
        have : (List.replicate (N.length - 2) (none : Option D))[i]? = some (some b) := hi
        rw [List.getElem?_replicate] at this
        split at this <;> cases this
    · intro v H2 F2 r _ hi hr
      have hr : r = .bl true := hr
      subst hr
      have hi : Is K F2 v (.bl true) := hi
      cases hi
      exact hq H2
end
end DL

/-! DL15: what is walked is a tuple or a list; comprehensions without draws; loops over images. -/
namespace DL
open PySem PySem.Spec PyProof.Rows L2
def iSeq (K : PySem.W.Frag) (te : TE) : TI := fun σ H R => te σ H fun x H1 => (∃ a xs, x = .ref a ∧ SqL K H1 a xs ∧ R (Itl K a) H1) ∨ (∃ a xs, x = .ref a ∧ SqT K H1 a xs ∧ R (Itt K a) H1)
section
variable {X : Cx} {tg : Expr}
theorem pi_seq {l : Expr} {tl : TE} (hl : PE X l tl) : PI X tg l (iSeq X.K tl) := by
  refine ⟨fun pins s σ H R I h => ?_⟩
  refine thn (hl.run pins s σ H _ I h) fun v s1 ⟨x, H1, I1, r1, q1⟩ => ?_
  rcases q1 with ⟨a, xs, e, hq, q⟩ | ⟨a, xs, e, hq, q⟩
  · subst e
    cases r1
    obtain ⟨its, rv, p, hz⟩ := I1.list hq
    refine wpAny_pyIter_list p.isList ?_
    refine ⟨s1.heap.objs.size, [s1.heap.objs.size], _, _, H1, rfl, I1.kept (t' := s1.toks) fun b o e => Heap.get?_push_of_some _ e, turn_list a _, ⟨_, Heap.get?_push_size _ rfl, rfl, rfl⟩, fun b hb => ?_, q⟩
    have e : b = s1.heap.objs.size := by simpa using hb
    subst e
    exact I1.fpOk (Nat.le_refl _) (I1.hok.fresh (Nat.le_refl _))
  · subst e
    cases r1
    obtain ⟨its, rv, p, hz⟩ := I1.tuple hq
    refine wpAny_pyIter_tuple (show s1.heap.IsTuple a its.toArray from p) ?_
    refine ⟨s1.heap.objs.size, [s1.heap.objs.size], _, _, H1, rfl, I1.kept (t' := s1.toks) fun b o e => Heap.get?_push_of_some _ e, turn_tuple a _, ⟨_, Heap.get?_push_size _ rfl, rfl, rfl⟩, fun b hb => ?_, q⟩
    have e : b = s1.heap.objs.size := by simpa using hb
    subst e
    exact I1.fpOk (Nat.le_refl _) (I1.hok.fresh (Nat.le_refl _))
def fIt (f : FE) : FI := fun ρ q x => f ρ (fun d => match d with | .lst xs => q xs | .tup xs => q xs | _ => False) x
theorem di_seq {g : Gd} {E : XK} {m : List Nat} {a : Expr} {fa : FE} (h : DE X g E m a fa) : DI X g E m tg a (fIt fa) := PIimp (pi_seq h) fun σ H R ⟨H0, F0, F, ρ, q, x, Rl, hf, hq, hx⟩ =>
  ⟨H0, F0, F, ρ, _, x, Rl, hf, fun v H' F' d r i hd => by
    split at hd
    · cases i with
      | lst h1 h2 => exact .inl ⟨_, _, rfl, .inl (.inl ((Rl.step r).fr.sub _ _ h1)), hq _ H' F' _ r (yl_list h1 h2) hd⟩
    · cases i with
      | tup h1 h2 => exact .inr ⟨_, _, rfl, (Rl.step r).fr.sub.sqT h1, hq _ H' F' _ r (yl_tup h1 h2) hd⟩
    · exact hd.elim, hx⟩
end
/-! ### a, b, .. = a tuple or a list -/
theorem pg_or {X : Cx} {e : Expr} {t t' : TG} (h : PG X e t) (h' : PG X e t') : PG X e (fun v σ H Q => t v σ H Q ∨ t' v σ H Q) := ⟨fun pins s σ H v u Q I r q => q.elim (h.run pins s σ H v u Q I r) (h'.run pins s σ H v u Q I r)⟩
def fGseq (n : Nat) (fs : FGs) : FG := fun d ρ q => match d with | .tup ds => ds.length = n ∧ fs ds ρ q | .lst ds => ds.length = n ∧ fs ds ρ q | _ => False
theorem dg_seq {X : Cx} {g : Gd} {m m1 : List Nat} {es : List Expr} {fs : FGs} {pos : Pos} {k n : Nat} (hc : X.calm = true) (h : DGs X g m m1 es fs) (hn : (assignEach es X.env).length = n := by rfl) (hst : (assignEach es X.env).findIdx? (·.1) = none := by rfl) : DG X g m m1 (.Tuple es k pos) (fGseq n fs) :=
  PGimp (pg_or (pg_tup hc h hn hst) (pg_lst hc h hn hst)) fun v σ H Q ⟨H0, F0, F, ρ, d, q, R, is, hf, hq⟩ => by
  unfold fGseq at hf
  split at hf
  · cases is with
    | tup h1 h2 => exact .inl ⟨_, _, rfl, R.fr.sub.sqT h1, by rw [h2.length]; exact hf.1, H0, F0, F, ρ, _, q, R, h2, hf.2, hq⟩
  · cases is with
    | lst h1 h2 => exact .inr ⟨_, _, rfl, .inl (.inl (R.fr.sub _ _ h1)), by rw [h2.length]; exact hf.1, H0, F0, F, ρ, _, q, R, h2, hf.2, hq⟩
  · exact hf.elim
/-! comprehensions without draws -/
theorem lc_map {t : FG} {fe : FE} {vs : List Nat} {ρ : Ro} {q : D → Prop} {x : XD} (v : D → D) : ∀ (ds acc : List D), (∀ a ∈ ds, ∀ q' : D → Prop, q' (v a) → t a (wipeD ρ vs) fun ρ1 => fe ρ1 q' x) → acc.length + ds.length ≤ LN → q (.lst (acc ++ ds.map v)) → lcL t fYes fe vs ρ q x ds acc
  | [], acc, _, _, h => by rw [List.map_nil, List.append_nil] at h; exact h
  | a :: ds, acc, hs, hl, h => by
    rw [List.length_cons] at hl
    refine hs a (List.mem_cons_self ..) _ ⟨by omega, lc_map v ds (acc ++ [v a]) (fun b hb => hs b (List.mem_cons_of_mem _ hb)) (by rw [List.length_append, List.length_singleton]; omega) ?_⟩
    rw [List.append_assoc]; exact h
theorem lc_filter {t : FG} {tt : FT} {fe : FE} {vs : List Nat} {ρ : Ro} {q : D → Prop} {x : XD} (p : D → Bool) (v : D → D) : ∀ (ds acc : List D),
    (∀ a ∈ ds, ∀ nx : Bool → Ro → Prop, (∀ ρ1, (∀ q' : D → Prop, q' (v a) → fe ρ1 q' x) → nx (p a) ρ1) → t a (wipeD ρ vs) fun ρ1 => tt ρ1 (fun b => nx b ρ1) x) → acc.length + ds.length ≤ LN → q (.lst (acc ++ (ds.filter p).map v)) → lcL t tt fe vs ρ q x ds acc
  | [], acc, _, _, h => by rw [List.filter_nil, List.map_nil, List.append_nil] at h; exact h
  | a :: ds, acc, hs, hl, h => by
    rw [List.length_cons] at hl
    refine hs a (List.mem_cons_self ..) (fun b ρ1 => if b = true then fe ρ1 (fun d => acc.length < LN ∧ lcL t tt fe vs ρ q x ds (acc ++ [d])) x else lcL t tt fe vs ρ q x ds acc) fun ρ1 h1 => ?_
    by_cases hp : p a = true
    · rw [List.filter_cons_of_pos hp, List.map_cons] at h
      rw [hp, if_pos rfl]
      refine h1 _ ⟨by omega, lc_filter p v ds (acc ++ [v a]) (fun b hb => hs b (List.mem_cons_of_mem _ hb)) (by rw [List.length_append, List.length_singleton]; omega) ?_⟩
      rw [List.append_assoc]; exact h
    · rw [List.filter_cons_of_neg hp] at h
      have hp' : p a = false := by simpa using hp
      rw [hp', if_neg Bool.false_ne_true]
      exact lc_filter p v ds acc (fun b hb => hs b (List.mem_cons_of_mem _ hb)) (by omega) h
theorem lc_mapA {α : Type} {t : FG} {fe : FE} {vs : List Nat} {ρ : Ro} {q : D → Prop} {x : XD} (f v : α → D) : ∀ (l : List α) (acc : List D), (∀ a ∈ l, ∀ q' : D → Prop, q' (v a) → t (f a) (wipeD ρ vs) fun ρ1 => fe ρ1 q' x) → acc.length + l.length ≤ LN → q (.lst (acc ++ l.map v)) → lcL t fYes fe vs ρ q x (l.map f) acc
  | [], acc, _, _, h => by rw [List.map_nil, List.append_nil] at h; exact h
  | a :: ds, acc, hs, hl, h => by
    rw [List.length_cons] at hl
    refine hs a (List.mem_cons_self ..) _ ⟨by omega, lc_mapA f v ds (acc ++ [v a]) (fun b hb => hs b (List.mem_cons_of_mem _ hb)) (by rw [List.length_append, List.length_singleton]; omega) ?_⟩
    rw [List.append_assoc]; exact h
/-- with a bound predicate on what is gathered (draws) -/
theorem lc_all {α : Type} {t : FG} {fe : FE} {vs : List Nat} {ρ : Ro} {q : D → Prop} {x : XD} {β : Type} (f : α → D) (g : β → D) (P : β → Prop) : ∀ (l : List α) (acc : List β), (∀ a ∈ l, ∀ q' : D → Prop, (∀ b, P b → q' (g b)) → t (f a) (wipeD ρ vs) fun ρ1 => fe ρ1 q' x) → acc.length + l.length ≤ LN → (∀ b ∈ acc, P b) →
    (∀ r : List β, r.length = acc.length + l.length → (∀ b ∈ r, P b) → q (.lst (r.map g))) → lcL t fYes fe vs ρ q x (l.map f) (acc.map g)
  | [], acc, _, _, ha, h => h acc rfl ha
  | a :: ds, acc, hs, hl, ha, h => by
    rw [List.length_cons] at hl
    refine hs a (List.mem_cons_self ..) _ fun b hb => ⟨by rw [List.length_map]; omega, ?_⟩
    have := lc_all f g P ds (acc ++ [b]) (fun c hc => hs c (List.mem_cons_of_mem _ hc)) (by rw [List.length_append, List.length_singleton]; omega) (fun c hc => by
      rcases List.mem_append.mp hc with h1 | h1
      · exact ha c h1
      · rw [List.mem_singleton] at h1; rw [h1]; exact hb) fun r h1 h2 => h r (by rw [h1, List.length_append, List.length_singleton, List.length_cons]; omega) h2
    rw [List.map_append] at this
    exact this
theorem blsD_map : ∀ l : List Bool, blsD (l.map D.bl) = some l
  | [] => rfl
  | b :: l => by show (blsD (l.map D.bl)).map (b :: ·) = _; rw [blsD_map l]; rfl
theorem all_bl (q : D → Prop) (x : XD) (l : List Bool) : sAll (.lst (l.map D.bl)) q x = q (.bl (l.all id)) := by unfold sAll; simp only [blsD_map]
/-- all of a comprehension of truths -/
theorem all_true (q : D → Prop) (x : XD) {α : Type} (l : List α) (h : q (.bl true)) : sAll (.lst (l.map fun _ => D.bl true)) q x := by
  have e : (l.map fun _ => D.bl true) = (l.map fun _ => true).map D.bl := by rw [List.map_map]; rfl
  rw [e, all_bl]
  have : (l.map fun _ => true).all id = true := by simp
  rw [this]; exact h
theorem forL_map {α : Type} {t : FG} {b : FS} {d : DEnds} {f : α → D} (I : List α → Ro → Prop) (h0 : ∀ ρ, I [] ρ → d.nx ρ)
    (h1 : ∀ a r ρ, I (a :: r) ρ → ∀ nx : Ro → Prop, (∀ ρ', I r ρ' → nx ρ') → t (f a) ρ fun ρ1 => b ρ1 { d with nx := nx, ct := nx, bk := d.nx }) : ∀ (l : List α) (ρ : Ro), I l ρ → forL t b d (l.map f) ρ
  | [], ρ, h => h0 ρ h
  | a :: r, ρ, h => h1 a r ρ h _ fun ρ' h' => forL_map I h0 h1 r ρ' h'
end DL

/-! DL16: own classes of errors over Exception, with one attribute; raise. -/
namespace DL
open PySem PySem.Spec PyProof.Rows L2 Builtin Builtin.ObjectAttr
abbrev bmE : List Value := [.type "Exception", .type "BaseException", .type "object"]
/-- what the written part says of an own class of errors -/
structure ErrC (K : PySem.W.Frag) (C : Addr) : Prop where
  init : PySem.W.excInitIn K C bmE "Exception.__new__" = true
  over : PySem.W.excOver K C bmE = true
  no : PySem.W.findIn K (.ref C) "thing" = some none
  sa : PySem.W.findIn K (.ref C) "__setattr__" = some (some (.builtin "object.__setattr__"))
  hd : PySem.W.hasDictIn K C = true
  ex : PySem.W.subIn K (.ref C) (.type "BaseException") = some true
  ty : PySem.W.typeIn K (.ref C) = some (.type "type")
  kp : PySem.W.keepIn K (.ref C) = true
theorem ErrC.taker {K : PySem.W.Frag} {C : Addr} (T : ErrC K C) : PySem.W.takerIn K C "thing" = some none := by unfold PySem.W.takerIn; rw [T.no]; rfl
section
variable {X : Cx} {pins : List (Addr × Obj)} {σ : L2.St} {H : Hp} {s : Shared} {a C : Addr} {y : V} {u : Value} {E : Value → Shared → Prop} {A : Around}
theorem two_upd {H : Hp} {a b : Addr} {o1 o2 o3 : HO} (h : b ≠ a) : upd (upd (upd H b o1) a o2) b o3 = upd (upd H b o3) a o2 := by
  funext c
  by_cases hb : c = b
  · subst hb; rw [upd_same, upd_ne h, upd_same]
  · rw [upd_ne hb]
    by_cases ha : c = a
    · subst ha; rw [upd_same, upd_same]
    · rw [upd_ne ha, upd_ne ha, upd_ne hb, upd_ne hb]
/-- self.thing = y, the error being made -/
theorem err_set {Q : Unit → Shared → Prop} (T : ErrC X.K C) (I : Inv X pins σ H s) (e : H a = some (exo a C none)) (ry : RelV y u)
    (h : ∀ dx s', H dx = none → dx ≠ a → Inv X pins σ (upd (upd H dx (exd dx [("thing", y)])) a (exo a C (some dx))) s' → Q () s') : wpAny (model X.prog X.w) A (setAttr (.ref a) "thing" u) Q E s := by
  obtain ⟨t1, ho⟩ := exo_at I.hok e
  obtain ⟨hp, g, d, t, os⟩ := s
  obtain ⟨cd, hc, hcd⟩ := PySem.W.any_some T.hd
  refine PySem.W.set_plain I.kIn (od := none) ⟨ho, rfl, rfl, trivial⟩ T.sa ?_
  refine PySem.W.osa_openX (od := none) PySem.F.store_Exception (s := ⟨hp, g, d, t + 1, os⟩) I.kIn ⟨ho, rfl, rfl, trivial⟩ T.over T.taker fun b => ?_
  have lc : PySem.W.Looks (model X.prog X.w) hp (classData C) cd := PySem.W.looks_clsIn I.kIn hc
  have sz : a ≠ hp.objs.size := Nat.ne_of_lt (Heap.lt_size ho)
  have J1 : Inv X pins σ (upd H hp.objs.size (exd hp.objs.size [])) ⟨hp.push { cls := .type "dict", data := .dict #[] }, g, d, t, os⟩ :=
    I.laid (t' := t) (fun _ _ z => Heap.get?_push_of_some _ z) (Nat.le_refl _) (exd_ok (Heap.Ns1.of_empty ⟨_, #[], _, Heap.get?_push_at rfl rfl, rfl, fun _ z => absurd z (by simp), fun _ => rfl⟩) fun _ => trivial)
  have e1 : upd H hp.objs.size (exd hp.objs.size []) a = some (exo a C none) := by rw [upd_ne sz]; exact e
  have ho1 : (hp.push { cls := .type "dict", data := .dict #[] }).get? a = _ := Heap.get?_push_of_some _ ho
  dsimp only
  unfold storeInOwnDict ownDictForStores
  obtain ⟨nm, bs, mro, ns, qn, hdc, sn, sb, ab, col, del⟩ := cd
  dsimp only at hcd
  subst hcd
  repeat (first
    | with_reducible refine lc.at ?_
    | with_reducible refine wpAny_loadPart_at ho ?_
    | with_reducible refine PySem.HandSPX.store_in_new ?_ fun h' tk' hn' hs => ?_
    | wp_step)
  · exact ⟨_, #[], _, (Heap.get?_update_ne _ _ _ _ sz.symm).trans (Heap.get?_push_at rfl rfl), rfl, fun _ z => absurd z (by simp), fun _ => rfl⟩
  · have J2 := J1.write (t' := t) (x := a) (e := a) (o := exo a C (some hp.objs.size)) (h' := ((hp.push { cls := .type "dict", data := .dict #[] }).update a fun o => { o with dict := some hp.objs.size })) (by rw [e1]; exact True.intro) (.inl rfl)
      (fun b o hb z => (Heap.get?_update_ne _ _ _ _ hb).trans z) ⟨_, Heap.get?_update_self _ ho1 rfl⟩ (exo_ok (Heap.get?_update_self _ ho1 rfl))
    have e2 : upd (upd H hp.objs.size (exd hp.objs.size [])) a (exo a C (some hp.objs.size)) hp.objs.size = some (exd hp.objs.size []) := by rw [upd_ne sz.symm, upd_same]
    have J3 := J2.write (t' := tk') (x := hp.objs.size) (e := hp.objs.size) (o := exd hp.objs.size [("thing", y)]) (h' := h') (by rw [e2]; exact True.intro) (.inl rfl) (fun b o hb z => (hs.2 b hb).trans z)
      (by obtain ⟨o, _, _, z, _⟩ := hn'; exact ⟨o, z⟩) (exd_ok hn' (relO_put (fs := []) ry fun g => True.intro))
    rw [two_upd sz.symm] at J3
    exact h hp.objs.size _ (I.hok.fresh (Nat.le_refl _)) sz.symm J3
end
/-! ### its __init__ -/
def metOf (st : Stmt) : Stmt := match st with
  | .ClassDef _ _ _ b .. => b.getD 0 (.Pass ⟨0, 0, 0, 0⟩)
  | _ => .Pass ⟨0, 0, 0, 0⟩
def spInit (K : PySem.W.Frag) : Sp := fun vs H Q _ => ∃ (a C : Addr) (v : V), vs = [.ref a, v] ∧ ErrC K C ∧ H a = some (exo a C none) ∧ ∀ dx, H dx = none → dx ≠ a → Q .non (upd (upd H dx (exd dx [("thing", v)])) a (exo a C (some dx)))
def tErr (K : PySem.W.Frag) : TS := fun D σ H => ∃ (a C : Addr) (v : V), σ[0]? = some (some (.ref a)) ∧ σ[1]? = some (some v) ∧ ErrC K C ∧ H a = some (exo a C none) ∧ ∀ dx, H dx = none → dx ≠ a → D.nx σ (upd (upd H dx (exd dx [("thing", v)])) a (exo a C (some dx)))
section
variable {X : Cx} {o e : Expr} {p' pos : Pos}
theorem ps_err (ho : PE X o (tVar 0)) (he : PE X e (tVar 1)) (hs : swapsWith e (some (.Attribute o "thing" p')) pos.line X.env = pure false := by rfl) : PS X (.Assign [.Attribute o "thing" p'] e pos) (tErr X.K) := by
  refine ⟨fun pins s σ H D I h => ?_⟩
  obtain ⟨a, C, v, e0, e1, T, ea, q⟩ := h
  refine plainObj_wpAny_Assign_Attribute (thn (he.run pins s σ H (fun w H1 => w = v ∧ H1 = H) I ⟨v, e1, rfl, rfl⟩) fun u s1 ⟨w, H1, I1, r1, ew, eH⟩ => ?_) hs
  subst ew eH
  refine thn (ho.run pins s1 σ H1 (fun w2 H2 => w2 = V.ref a ∧ H2 = H1) I1 ⟨.ref a, e0, rfl, rfl⟩) fun u2 s2 ⟨w2, H2, I2, r2, ew, eH⟩ => ?_
  subst ew eH
  obtain rfl : u2 = Value.ref a := r2
  exact err_set T I2 ea r1 fun dx s' n ne J => ⟨σ, _, J, q dx n ne⟩
end
section
variable {P : Program} {w : World} {K : PySem.W.Frag} {mg : Str → Option Value} {base : Heap} {f : Addr} {fd : FuncData} {qual x : Str} {params : Arguments} {scope : Scope} {p1 p2 p3 p4 : Pos}
theorem ok_init (F : FunD K x qual params [.Assign [.Attribute (.Name "self" p1) "thing" p2] (.Name "thing" p3) p4] scope [] [] f fd) (S : FnScope ["self", "thing"] ["self", "thing"] scope)
    (h0 : ∀ (cdv : Value) (A : Around) (outer : List Env) (s : Shared) (H : Hp) (E : XK), PE (cxOf CX0 P w K mg base ["self", "thing"] qual scope f cdv A outer s H E).nox (.Name "self" p1) (tVar 0) ∧ PE (cxOf CX0 P w K mg base ["self", "thing"] qual scope f cdv A outer s H E).nox (.Name "thing" p3) (tVar 1)) :
    FnG P w K mg base CX0 1 f fd ["self", "thing"] (spInit K) := by
  refine okRaw (k := 0) F S (fun vs H Q E ⟨a, C, v, h, _⟩ => by rw [h]; rfl) fun cdv A outer s H vs Q E hr hG ⟨a, C, v, hv, T, ea, q⟩ => ?_
  obtain ⟨h1, h2⟩ := h0 cdv A outer s H E
  subst hv
  refine ⟨_, pss_one (ps_err h1 h2), a, C, v, rfl, rfl, T, ea, fun dx n ne => q dx n ne⟩
end
/-! ### X(e), raised -/
/-- a class of errors as it is called: its name x, its __init__ -/
structure Mkr (P : Program) (w : World) (K : PySem.W.Frag) (mg : Str → Option Value) (base : Heap) (x : Str) : Prop where
  ex : ∃ (fI : Addr) (fd : FuncData), FnG P w K mg base CX0 1 fI fd ["self", "thing"] (spInit K) ∧ PySem.W.findIn K (.ref (He.ga K x)) "__init__" = some (some (.ref fI)) ∧ PySem.W.typeIn K (.ref fI) = some (.type "function") ∧ Binds K fd ["self", "thing"] [] ∧ mg x = some (.ref (He.ga K x))
  err : ErrC K (He.ga K x)
section
variable {X : Cx} {x : Str} {e : Expr} {te : TE} {p pos : Pos} {k : Nat}
theorem del_new {H : Hp} {a d : Addr} {o1 o2 o3 o4 : HO} (na : H a = none) (hda : d ≠ a) : upd (L2.del (upd (upd (upd H a o4) d o1) a o2) a) d o3 = upd H d o3 := by
  funext b
  by_cases hb : b = d
  · subst hb; rw [upd_same, upd_same]
  · rw [upd_ne hb, upd_ne hb]
    by_cases ha : b = a
    · subst ha; rw [del_same, na]
    · rw [del_ne ha, upd_ne ha, upd_ne hb, upd_ne ha]
theorem pmk_err (M : Mkr X.prog X.w X.K X.mg X.base x) (hr : Room (k + 1) X.A) (hk : 1 ≤ k) (hG : X.A.guards = some []) (hg : Gl X x) (he : PE X e te)
    (hs : starEach [e] X.env = (false, eval e X.env) :: starEach [] X.env := by rfl) (hdb : (x == ("__debug__" : Str)) = false := by decide) :
    PMk X (.Call (.Name x p) [e] [] pos) (fun σ H Q => te σ H fun v H1 => ∀ d, H1 d = none → Q (.ref (He.ga X.K x)) (some d) (upd H1 d (.xd [("thing", v)]))) := by
  obtain ⟨fI, fd, F1, iC, tI, hb, hm⟩ := M.ex
  have T := M.err
  intro pins s σ H Q I h
  refine wpAny_Call_Name_kw (ld_glob I hg hm ?_ hdb)
  let goal : List V → Hp → Prop := fun vs H1 => match vs with
    | [v] => ∀ d, H1 d = none → Q (.ref (He.ga X.K x)) (some d) (upd H1 d (.xd [("thing", v)]))
    | _ => False
  refine PySem.W.callWith_K (h₀ := X.base) I.ok.mod.kin T.kp (thn ((pa_cons he pa_nil hs).run pos pins s σ H goal I h) fun us s1 ⟨vs, H1, I1, r1, q⟩ => ⟨I1.kIn, ?_⟩) hs (by rfl)
  match vs, q with
  | [v], q =>
  have q : ∀ d, H1 d = none → Q (.ref (He.ga X.K x)) (some d) (upd H1 d (.xd [("thing", v)])) := q
  obtain ⟨hp, g, dr, tk, os⟩ := s1
  obtain ⟨nm, N', qn, bs, bm, hdct, sn, sub, ab, col, dd, k0, k1, k2, k3, k5, hC, hT⟩ := PySem.W.excInit_of I1.kIn T.init
  have gt : hp.objs.size ≤ hp.objs.size + 1 := Nat.le_succ _
  have fresh : H1 (hp.objs.size + 1) = none := I1.hok.fresh gt
  have keep : ∀ b o, hp.get? b = some o → ((hp.push (PySem.W.kdv_tup us)).push (PySem.HandSPX.excO (He.ga X.K x) hp.objs.size)).get? b = some o := fun b o z => Heap.get?_push_of_some _ (Heap.get?_push_of_some _ z)
  have there : ((hp.push (PySem.W.kdv_tup us)).push (PySem.HandSPX.excO (He.ga X.K x) hp.objs.size)).get? (hp.objs.size + 1) = some (PySem.HandSPX.excO (He.ga X.K x) hp.objs.size) := by heap_get
  have I2 := I1.laid (t' := tk) (a := hp.objs.size + 1) (o := exo (hp.objs.size + 1) (He.ga X.K x) none) keep gt (exo_ok there)
  have nus : us.length = 1 := (Paired.length r1).symm
  have tie : Vals [V.ref (hp.objs.size + 1), v] (Value.ref (hp.objs.size + 1) :: us) := .cons rfl r1
  have bnd := hb _ (Value.ref (hp.objs.size + 1) :: us) I2.kIn (by rw [List.append_nil, List.length_cons, nus]; rfl)
  rw [List.append_nil] at bnd
  show wpAny _ _ (call (.ref (He.ga X.K x)) us) _ _ _
  refine wpAny_call (PySem.HandSPX.call_own PySem.F.excBase_Exception hT hC (PySem.W.looks_findIn I1.kIn iC) (fun self => PySem.W.bind_fn I1.kIn self tI) (by rw [nus, sizeLine_eq]; omega) ?_)
  refine codeAny_mono (F1.run _ X.stack _ _ ⟨Value.ref (hp.objs.size + 1) :: us, []⟩ _ _ (fun u H2 => u = .non ∧ ∃ dx, H1 dx = none ∧ dx ≠ hp.objs.size + 1 ∧ H2 = upd (upd (upd H1 (hp.objs.size + 1) (exo (hp.objs.size + 1) (He.ga X.K x) none)) dx (exd dx [("thing", v)])) (hp.objs.size + 1) (exo (hp.objs.size + 1) (He.ga X.K x) (some dx))) (fun _ _ _ => False)
    ((hr.mono (Nat.le_refl _)).make (He.ga X.K x) us [] |>.mono hk) hG (I2.env0.make (He.ga X.K x) us []) bnd tie ⟨_, _, _, rfl, T, upd_same, fun dx n ne => ⟨rfl, dx, by rw [upd_ne ne] at n; exact n, ne, rfl⟩⟩) fun r s' hq' => ?_
  cases r with
  | error er => exact hq'.elim
  | ok fl =>
    cases fl with
    | ret u =>
      obtain ⟨w2, H2, os2, bare2, un2, hok2, rv, ev, dx, n, ne, rfl⟩ := hq'
      subst ev
      obtain ⟨h2, g2, d2, t2, os'⟩ := s'
      refine ⟨rv, mk_end (raises_own T.ex T.ty) I1 gt keep un2 hok2 os2 bare2 upd_same (by rw [upd_ne ne, upd_same]) n ?_⟩
      rw [del_new fresh ne]
      exact q dx n
    | next => exact False.elim hq'
    | brk => exact False.elim hq'
    | cont => exact False.elim hq'
end
end DL

/-! DL17: raise, defs that raise and their calls, try .. except over data. -/
namespace DL
open PySem PySem.Spec PyProof.Rows L2
/-! ### raise -/
/-- E is taken in X -/
abbrev Tk (X : Cx) (E : XK) : Prop := L2.Takes X (fun c dx _ H => E c dx H)
def fRaise (n : Str) (f : FE) : FS := fun ρ d => f ρ (fun a => d.x n a) d.x
section
variable {X : Cx} {g : Gd} {E : XK} {k : Bool} {mb m m' : List Nat} {e : Expr} {fe : FE} {x : Str} {p pos pos' : Pos} {j : Nat}
theorem ds_raise (hc : X.calm = true) (tk : Tk X E) (M : Mkr X.prog X.w X.K X.mg X.base x) (hr : Room j X.A) (hG : X.A.guards = some []) (hg : Gl X x) (he : DE X g E m e fe) (hj : 2 ≤ j := by decide)
    (hs : starEach [e] X.env = (false, eval e X.env) :: starEach [] X.env := by rfl) (hdb : (x == ("__debug__" : Str)) = false := by decide) :
    DS X g E k mb m m' (.Raise (some (.Call (.Name x p) [e] [] pos)) none pos') (fRaise x fe) := by
  obtain ⟨i, rfl⟩ : ∃ i, j = i + 1 := ⟨j - 1, by omega⟩
  refine PSimp (L2.ps_raise hc tk (pmk_err M hr (by omega) hG hg he hs hdb)) fun D σ H ⟨H0, F0, F, ρ, d, R, hf, h1, h2, h3, h4, h5⟩ => ?_
  exact ⟨H0, F0, F, ρ, _, d.x, R, hf, fun v H1 F1 a r i hx dx nd => h5 x dx _ F1 v a ((R.fr.trans r).trans ((R.fr.trans r).newO nd)) (R.fr.back (r.back nd)) upd_same i hx, h5.step R.fr⟩
end
/-! ### a def that may raise -/
section
variable {P : Program} {w : World} {K : PySem.W.Frag} {mg : Str → Option Value} {base : Heap} {f : Addr} {fd : FuncData} {N ps : List Str} {k : Nat} {fn : Fn} {kd : Bool} {qual x : Str} {params : Arguments} {body : List Stmt} {scope : Scope} {dvs : List V}
theorem okNx (F : FunD K x qual params body scope dvs [] f fd) (S : FnScope N ps scope) (hl : ∀ ds q x, fn ds q x → ds.length = ps.length)
    (hbody : ∀ (cdv : Value) (A : Around) (outer : List Env) (s : Shared) (H : Hp) (E : XK), Room k (A.deeper (envOfC qual scope s.heap.objs.size f cdv)) → (A.deeper (envOfC qual scope s.heap.objs.size f cdv)).guards = some [] →
      Tk (cxOf (L2.CX P w) P w K mg base N qual scope f cdv A outer s H E) E → PassesOwn (model P w) (cxOf (L2.CX P w) P w K mg base N qual scope f cdv A outer s H E).A (cxOf (L2.CX P w) P w K mg base N qual scope f cdv A outer s H E).env (cxOf (L2.CX P w) P w K mg base N qual scope f cdv A outer s H E).xe →
      ∃ m' fb, DSs (cxOf (L2.CX P w) P w K mg base N qual scope f cdv A outer s H E) none E kd [] [] m' body fb ∧ ∀ ds q x, fn ds q x → fb (startD N.length ds) (entry kd q x)) :
    FnG P w K mg base (L2.CX P w) (k + 1) f fd ps (spN K kd fn) := by
  obtain ⟨oc, od, dV, kV, doc, pm, an, cdv, ct, osl, rfl, lk, hcd, _, _⟩ := F.ex
  refine fnG_of lk hcd S (fun vs H Q E ⟨F, ds, q, x, _, h, hf, _⟩ => by rw [h.length]; exact hl _ _ _ hf) fun A outer s H vs Q E hr hG ⟨F, ds, q, x, r, h, hf, hq, hx⟩ => ?_
  obtain ⟨m', fb, hd, hs⟩ := hbody cdv A outer s H E hr hG (takes_of rfl rfl rfl rfl) (passes_of rfl)
  refine ⟨_, hd, H, F, F, startD N.length ds, entry kd q x, start_rel r h, hs ds q x hf, fun σ' H' F' ρ' R _ hn => ?_, fun _ _ _ _ _ _ z => z.elim, fun _ _ _ _ _ _ z => z.elim, fun v H' F' d r2 i hd2 => hq v H' F' d r2 i hd2, hx⟩
  obtain ⟨rfl, hn⟩ := hn
  exact hq .non H' F' .non R.fr Is.non hn
end
/-- such a def as it is called -/
structure CalX (P : Program) (w : World) (K : PySem.W.Frag) (mg : Str → Option Value) (base : Heap) (k : Nat) (x : Str) (ps : List Str) (sp : Sp) (bs : List (List D)) (kbs : List (Nat × List Str × List Nat)) : Prop where
  ex : ∃ (f : Addr) (fd : FuncData), FnG P w K mg base (L2.CX P w) k f fd ps sp ∧ mg x = some (.ref f) ∧ PySem.W.keepIn K (.ref f) = true ∧
    (∀ dd ∈ bs, ∃ (dvs : List V) (dss : List Value), Binds K fd ps dss ∧ Vals dvs dss ∧ ∀ F, IsAll K F dvs dd) ∧ ∀ t ∈ kbs, KB K fd ps t.1 t.2.1 t.2.2
section
variable {X : Cx} {g : Gd} {E : XK} {m : List Nat} {j k : Nat} {ps : List Str} {fn : Fn} {dd : List D} {x : Str} {p pos : Pos} {e : Expr} {es : List Expr} {fs fk : FA} {kws : List Keyword} {bs : List (List D)} {kbs : List (Nat × List Str × List Nat)}
theorem passX (tk : Tk X E) : Passes (L2.CX X.prog X.w) X E := passes_call tk fun _ _ _ _ h => h
theorem calX_N (C : CalX X.prog X.w X.K X.mg X.base j x ps (spN X.K false fn) bs kbs) (tk : Tk X E) (hr : Room k X.A) (hG : X.A.guards = some []) (hg : Gl X x) (i : Nat) (ha : DA X g E m (e :: es) fs) (hb : bs[i]? = some dd := by rfl) (hj : j ≤ k := by decide)
    (hdb : (x == ("__debug__" : Str)) = false := by decide) (he : starEach (e :: es) X.env = (false, eval e X.env) :: starEach es X.env := by rfl) (hpl : (backTo pos (starEach es X.env)).any (·.1) = false := by rfl) :
    DE X g E m (.Call (.Name x p) (e :: es) [] pos) (fCall fn dd fs) := by
  obtain ⟨f, fd, h1, h2, h3, h4, _⟩ := C.ex
  obtain ⟨dvs, dss, b1, b2, b3⟩ := h4 dd (List.mem_of_getElem? hb)
  exact de_call (hr.mono hj) hG hg h2 h3 (passX tk) h1 b1 b2 b3 ha hdb he hpl
theorem calX_K (C : CalX X.prog X.w X.K X.mg X.base j x ps (spN X.K false fn) bs kbs) (tk : Tk X E) (hr : Room k X.A) (hG : X.A.guards = some []) (hg : Gl X x) (i n : Nat) (ks : List Str) (ix : List Nat) (ha : DA X g E m (e :: es) fs) (hkw : DK X g E m kws fk) (hb : kbs[i]? = some (n, ks, ix) := by rfl) (hj : j ≤ k := by decide)
    (hall : (backToKw pos (keywordEach kws X.env)).all (·.1.isSome) = true := by rfl) (hks : (backToKw pos (keywordEach kws X.env)).filterMap (·.1) = ks := by rfl)
    (hdb : (x == ("__debug__" : Str)) = false := by decide) (he : starEach (e :: es) X.env = (false, eval e X.env) :: starEach es X.env := by rfl)
    (hpl : ((backTo pos (starEach (e :: es) X.env)).any (·.1) || (backToKw pos (keywordEach kws X.env)).any (·.1.isNone)) = false := by rfl) :
    DE X g E m (.Call (.Name x p) (e :: es) kws pos) (fCallK fn n ks.length ix fs fk) := by
  obtain ⟨f, fd, h1, h2, h3, _, h5⟩ := C.ex
  exact de_callK (hr.mono hj) hG hg h2 h3 (passX tk) h1 (h5 _ (List.mem_of_getElem? hb)) ha hkw hall hks hdb he hpl
theorem calX_K0 (C : CalX X.prog X.w X.K X.mg X.base j x ps (spN X.K false fn) bs kbs) (tk : Tk X E) (hr : Room k X.A) (hG : X.A.guards = some []) (hg : Gl X x) (i : Nat) (ks : List Str) (ix : List Nat) (hkw : DK X g E m kws fk) (hb : kbs[i]? = some (0, ks, ix) := by rfl) (hj : j ≤ k := by decide)
    (hall : (backToKw pos (keywordEach kws X.env)).all (·.1.isSome) = true := by rfl) (hks : (backToKw pos (keywordEach kws X.env)).filterMap (·.1) = ks := by rfl)
    (hdb : (x == ("__debug__" : Str)) = false := by decide)
    (hpl : ((backTo pos (starEach [] X.env)).any (·.1) || (backToKw pos (keywordEach kws X.env)).any (·.1.isNone)) = false := by rfl) :
    DE X g E m (.Call (.Name x p) [] kws pos) (fCallK fn 0 ks.length ix fNil fk) := by
  obtain ⟨f, fd, h1, h2, h3, _, h5⟩ := C.ex
  exact de_callK0 (hr.mono hj) hG hg h2 h3 (passX tk) h1 (h5 _ (List.mem_of_getElem? hb)) hkw hall hks hdb hpl
end
/-! ### called where nothing is to be raised -/
def fCall0 (f : Fn) (dd : List D) (fs : FA) : FE := fun ρ q x => fs ρ (fun ds => f (ds ++ dd) q x0) x
def fCallK0 (f : Fn) (n nk : Nat) (ix : List Nat) (fs fk : FA) : FE := fun ρ q x => fs ρ (fun ds => fk ρ (fun es => ds.length = n ∧ es.length = nk ∧ f (pick ix (ds ++ es)) q x0) x) x
theorem takes0 {X : Cx} : L2.Takes X (fun _ _ _ _ => False) := fun _ _ ⟨_, _, _, _, _, _, _, _, _, _, _, _, _, _, _, _, w⟩ => w.elim
section
variable {X : Cx} {g : Gd} {E : XK} {m : List Nat} {j k : Nat} {ps : List Str} {fn : Fn} {dd : List D} {x : Str} {p pos : Pos} {e : Expr} {es : List Expr} {fs fk : FA} {kws : List Keyword} {bs : List (List D)} {kbs : List (Nat × List Str × List Nat)}
theorem calX0_N (C : CalX X.prog X.w X.K X.mg X.base j x ps (spN X.K false fn) bs kbs) (hr : Room k X.A) (hG : X.A.guards = some []) (hg : Gl X x) (i : Nat) (ha : DA X g E m (e :: es) fs) (hb : bs[i]? = some dd := by rfl) (hj : j ≤ k := by decide)
    (hdb : (x == ("__debug__" : Str)) = false := by decide) (he : starEach (e :: es) X.env = (false, eval e X.env) :: starEach es X.env := by rfl) (hpl : (backTo pos (starEach es X.env)).any (·.1) = false := by rfl) :
    DE X g E m (.Call (.Name x p) (e :: es) [] pos) (fCall0 fn dd fs) := by
  obtain ⟨f, fd, h1, h2, h3, h4, _⟩ := C.ex
  obtain ⟨dvs, dss, b1, b2, b3⟩ := h4 dd (List.mem_of_getElem? hb)
  refine PEimp (pe_callG h1 (hr.mono hj) hG hg h2 h3 b1 b2 (passX (E := fun _ _ _ => False) takes0) ha hdb he hpl) fun σ H Q ⟨H0, F0, F, ρ, q, x, R, hf, hq, hx⟩ => ?_
  refine ⟨H0, F0, F, ρ, _, x, R, hf, fun vs H1 F1 ds r1 i1 hs => ?_, hx⟩
  have R1 := R.step r1
  exact ⟨F1, ds ++ dd, q, x0, R1.fr.bare, i1.append (b3 F1), hs, fun v H' F' d r2 i2 hd2 => hq v H' F' d (r1.trans (R1.fr.lift r2)) i2 hd2, XE.none⟩
theorem calX0_K (C : CalX X.prog X.w X.K X.mg X.base j x ps (spN X.K false fn) bs kbs) (hr : Room k X.A) (hG : X.A.guards = some []) (hg : Gl X x) (i n : Nat) (ks : List Str) (ix : List Nat) (ha : DA X g E m (e :: es) fs) (hkw : DK X g E m kws fk) (hb : kbs[i]? = some (n, ks, ix) := by rfl) (hj : j ≤ k := by decide)
    (hall : (backToKw pos (keywordEach kws X.env)).all (·.1.isSome) = true := by rfl) (hks : (backToKw pos (keywordEach kws X.env)).filterMap (·.1) = ks := by rfl)
    (hdb : (x == ("__debug__" : Str)) = false := by decide) (he : starEach (e :: es) X.env = (false, eval e X.env) :: starEach es X.env := by rfl)
    (hpl : ((backTo pos (starEach (e :: es) X.env)).any (·.1) || (backToKw pos (keywordEach kws X.env)).any (·.1.isNone)) = false := by rfl) :
    DE X g E m (.Call (.Name x p) (e :: es) kws pos) (fCallK0 fn n ks.length ix fs fk) := by
  obtain ⟨f, fd, h1, h2, h3, _, h5⟩ := C.ex
  refine PEimp (pe_callGK h1 (hr.mono hj) hG hg h2 h3 (h5 _ (List.mem_of_getElem? hb)) (passX (E := fun _ _ _ => False) takes0) ha hkw hall hks hdb he hpl) fun σ H Q ⟨H0, F0, F, ρ, q, x, R, hf, hq, hx⟩ => ?_
  refine ⟨H0, F0, F, ρ, _, x, R, hf, fun vs H1 F1 ds r1 i1 hs => ⟨H0, F0, F1, ρ, _, x, R.step r1, hs, fun zs H2 F2 es r2 i2 hs2 => ?_, hx.step r1⟩, hx⟩
  obtain ⟨l1, l2, hs2⟩ := hs2
  have R2 := (R.step r1).step r2
  exact ⟨by rw [i1.length]; exact l1, by rw [i2.length]; exact l2, F2, pick ix (ds ++ es), q, x0, R2.fr.bare, pick_all ((i1.up r2.f0).append i2) ix, hs2, fun v H' F' d r3 i3 hd3 => hq v H' F' d (r1.trans (r2.trans (R2.fr.lift r3))) i3 hd3, XE.none⟩
theorem calX0_K0 (C : CalX X.prog X.w X.K X.mg X.base j x ps (spN X.K false fn) bs kbs) (hr : Room k X.A) (hG : X.A.guards = some []) (hg : Gl X x) (i : Nat) (ks : List Str) (ix : List Nat) (hkw : DK X g E m kws fk) (hb : kbs[i]? = some (0, ks, ix) := by rfl) (hj : j ≤ k := by decide)
    (hall : (backToKw pos (keywordEach kws X.env)).all (·.1.isSome) = true := by rfl) (hks : (backToKw pos (keywordEach kws X.env)).filterMap (·.1) = ks := by rfl)
    (hdb : (x == ("__debug__" : Str)) = false := by decide)
    (hpl : ((backTo pos (starEach [] X.env)).any (·.1) || (backToKw pos (keywordEach kws X.env)).any (·.1.isNone)) = false := by rfl) :
    DE X g E m (.Call (.Name x p) [] kws pos) (fCallK0 fn 0 ks.length ix fNil fk) := by
  obtain ⟨f, fd, h1, h2, h3, _, h5⟩ := C.ex
  refine PEimp (pe_callGK0 h1 (hr.mono hj) hG hg h2 h3 (h5 _ (List.mem_of_getElem? hb)) (passX (E := fun _ _ _ => False) takes0) hkw hall hks hdb hpl) fun σ H Q ⟨H0, F0, F, ρ, q, x, R, hf, hq, hx⟩ => ?_
  have hf : fk ρ (fun es => (0 : Nat) = 0 ∧ es.length = ks.length ∧ fn (pick ix ([] ++ es)) q x0) x := hf
  refine ⟨H0, F0, F, ρ, _, x, R, hf, fun zs H2 F2 es r2 i2 hs2 => ?_, hx⟩
  obtain ⟨_, l2, hs2⟩ := hs2
  have R2 := R.step r2
  exact ⟨rfl, by rw [i2.length]; exact l2, F2, pick ix ([] ++ es), q, x0, R2.fr.bare, pick_all (IsAll.append .nil i2) ix, hs2, fun v H' F' d r3 i3 hd3 => hq v H' F' d (r2.trans (R2.fr.lift r3)) i3 hd3, XE.none⟩
end
/-! ### an except suite that hands back -/
/-- the caught error's address a, its dict's dx, what it carries t; slot i is its name's -/
structure HIn (K : PySem.W.Frag) (g : Gd) (σ : L2.St) (H F : Hp) (i : Nat) (a dx : Addr) (t : D) : Prop where
  slot : σ[i]? = some (some (.ref a))
  fr : Fr g H F H F
  nM : ¬ g.M dx
  th : ∃ v, H dx = some (.xd [("thing", v)]) ∧ Is K F v t
theorem HIn.step {K : PySem.W.Frag} {g : Gd} {σ : L2.St} {H F H' F' : Hp} {i : Nat} {a dx : Addr} {t : D} (h : HIn K g σ H F i a dx t) (r : Fr g H F H' F') : HIn K g σ H' F' i a dx t :=
  ⟨h.slot, r.self, h.nM, by obtain ⟨v, e, q⟩ := h.th; exact ⟨v, r.pre _ _ h.nM e, q.up r.f0⟩⟩
def tH (K : PySem.W.Frag) (g : Gd) (i : Nat) (a dx : Addr) (t d : D) : TE := fun σ H Q => ∃ F, HIn K g σ H F i a dx t ∧ ∀ u H' F', Fr g H F H' F' → Is K F' u d → Q u H'
def tHs (K : PySem.W.Frag) (g : Gd) (i : Nat) (a dx : Addr) (t : D) (ds : List D) : TA := fun σ H Q => ∃ F, HIn K g σ H F i a dx t ∧ ∀ us H' F', Fr g H F H' F' → IsAll K F' us ds → Q us H'
/-- what a suite may ask of a class of errors -/
structure ErrX (K : PySem.W.Frag) (C : Addr) : Prop where
  xf : XfC K C
  no : PySem.W.findIn K (.ref C) "thing" = some none
  ko : ∀ (x : Addr) (ox : Obj) (od : Option Obj), PySem.W.KitX K (.ref x) (.ref C) (fun h => PySem.W.InstAt h x ox C od)
section
variable {X : Cx} {g : Gd} {i : Nat} {a dx C : Addr} {oe : Obj} {pn : List (Addr × Obj)} {e : Expr} {es : List Expr} {t d : D} {ds : List D} {pos p : Pos}
theorem he_k {v : V} (h : PE (X.suite a ((a, oe) :: pn)) e (tC v)) (hd : ∀ F, Is X.K F v d) : PE (X.suite a ((a, oe) :: pn)) e (tH X.K g i a dx t d) := PEimp h fun σ H Q ⟨F, I, q⟩ => q v H F I.fr (hd F)
theorem he_thing (T : ErrX X.K C) (hz : Zc (.ref C) (some dx) oe) (hf : ∃ vs, oe.data = .fields vs) (ho : PE (X.suite a ((a, oe) :: pn)) e (tVar i)) (hb : attributeBase e "thing" X.env (eval e X.env) = eval e X.env := by rfl) :
    PE (X.suite a ((a, oe) :: pn)) (.Attribute e "thing" pos) (tH X.K g i a dx t t) := PEimp (pe_xf T.xf T.no hz hf ho hb) fun σ H Q ⟨F, I, q⟩ => by
  obtain ⟨v, e1, e2⟩ := I.th
  exact ⟨.ref a, I.slot, rfl, rfl, dx, _, v, rfl, e1, rfl, q v H F I.fr e2⟩
theorem hes_nil : PA (X.suite a ((a, oe) :: pn)) [] (tHs X.K g i a dx t []) := PAimp pa_nil fun σ H Q ⟨F, I, q⟩ => q [] H F I.fr .nil
theorem hes_cons (h : PE (X.suite a ((a, oe) :: pn)) e (tH X.K g i a dx t d)) (h' : PA (X.suite a ((a, oe) :: pn)) es (tHs X.K g i a dx t ds)) (hs : starEach (e :: es) X.env = (false, eval e X.env) :: starEach es X.env := by rfl) :
    PA (X.suite a ((a, oe) :: pn)) (e :: es) (tHs X.K g i a dx t (d :: ds)) := PAimp (pa_cons h h' hs) fun σ H Q ⟨F, I, q⟩ =>
  ⟨F, I, fun u H1 F1 r1 i1 => ⟨F1, I.step r1, fun us H2 F2 r2 i2 => q (u :: us) H2 F2 (r1.trans r2) (.cons (i1.up r2.f0) i2)⟩⟩
theorem he_tup {j : Nat} (h : PA (X.suite a ((a, oe) :: pn)) es (tHs X.K g i a dx t ds)) (hl : ds.length ≤ LN := by exact Nat.le_of_ble_eq_true rfl) : PE (X.suite a ((a, oe) :: pn)) (.Tuple es j pos) (tH X.K g i a dx t (.tup ds)) := PEimp (pe_tup h) fun σ H Q ⟨F, I, q⟩ =>
  ⟨F, I, fun us H1 F1 r1 i1 => ⟨LN_line (by rw [i1.length]; exact hl), fun l nl => q _ _ (upd F1 l _) (r1.trans ((I.step r1).fr.new nl)) (.tup (.inl (.inl upd_same)) (i1.up ((I.step r1).fr.new (o := .tup us) nl).f0))⟩⟩
theorem he_lst (h : PA (X.suite a ((a, oe) :: pn)) es (tHs X.K g i a dx t ds)) (hl : ds.length ≤ LN := by exact Nat.le_of_ble_eq_true rfl) : PE (X.suite a ((a, oe) :: pn)) (.List es pos) (tH X.K g i a dx t (.lst ds)) := PEimp (pe_lst h) fun σ H Q ⟨F, I, q⟩ =>
  ⟨F, I, fun us H1 F1 r1 i1 => ⟨LN_line (by rw [i1.length]; exact hl), fun l nl => q _ _ (upd F1 l _) (r1.trans ((I.step r1).fr.new nl)) (.lst upd_same (i1.up ((I.step r1).fr.new (o := .lst us) nl).f0))⟩⟩
end
section
variable {X : Cx} {g : Gd} {i : Nat} {a dx C C2 : Addr} {oe : Obj} {pn : List (Addr × Obj)} {e e2 : Expr} {t d : D} {pos p p2 : Pos} {b : Bool}
theorem call_isa (T : ErrX X.K C) (hz : Zc (.ref C) (some dx) oe) (hf : ∃ vs, oe.data = .fields vs) (hk : PySem.W.kitOne X.K (.ref C) (.ref C2) = some b) :
    CallR (X.suite a ((a, oe) :: pn)) (.builtin "isinstance") (fun xs H Q => xs = [.ref a, .ref C2] ∧ (∃ fs, H dx = some (.xd fs)) ∧ Q (.bl b) H) := by
  intro pins s σ H xs us Q I r h
  obtain ⟨rfl, ⟨fs, ex⟩, q⟩ := h
  obtain ⟨u1, r1, r'⟩ : ∃ u, RelV (.ref a) u ∧ ∃ r', us = u :: r' ∧ Vals [.ref C2] r' := by cases r with | cons h1 h2 => exact ⟨_, h1, _, rfl, h2⟩
  obtain ⟨l, rfl, r2⟩ := r'
  obtain ⟨u2, rfl, r3⟩ : ∃ u, l = [u] ∧ RelV (.ref C2) u := by cases r2 with | cons h1 h2 => cases h2; exact ⟨_, rfl, h1⟩
  obtain rfl : u1 = Value.ref a := r1
  obtain rfl : u2 = Value.ref C2 := r3
  obtain ⟨got, _⟩ := I.pin (a, oe) (List.mem_append_left _ List.mem_cons_self)
  obtain ⟨vs, hv⟩ := hf
  obtain ⟨mA, ns, _⟩ : ObjOk X.prog X.w H s.heap dx (.xd fs) := I.hok dx _ ex
  obtain ⟨od, ho, _⟩ := lookIn_ns ns
  have J : PySem.W.InstAt s.heap a oe C (some od) := ⟨got, hz.1, by unfold PySem.W.notCls; rw [hv] <;> rfl, by rw [hz.2]; exact ho⟩
  exact PySem.W.kia_one (T.ko a oe (some od)) I.kIn J hk (fun z => nomatch z) fun tk => ⟨.bl b, H, I.kept (t' := tk) fun _ _ z => z, rfl, q⟩
theorem he_isa (T : ErrX X.K C) (hz : Zc (.ref C) (some dx) oe) (hf : ∃ vs, oe.data = .fields vs) (hk : PySem.W.kitOne X.K (.ref C) (.ref C2) = some b) (hg : Gl (X.suite a ((a, oe) :: pn)) "isinstance") (hm : X.mg "isinstance" = none)
    (ho : PE (X.suite a ((a, oe) :: pn)) e (tVar i)) (hc : PE (X.suite a ((a, oe) :: pn)) e2 (tC (.ref C2))) (hb : bootBuiltins "isinstance" = some (.builtin "isinstance") := by decide +kernel)
    (h1 : starEach [e, e2] X.env = (false, eval e X.env) :: starEach [e2] X.env := by rfl) (h2 : starEach [e2] X.env = (false, eval e2 X.env) :: starEach [] X.env := by rfl) (hpl : (backTo pos (starEach [e2] X.env)).any (·.1) = false := by rfl) :
    PE (X.suite a ((a, oe) :: pn)) (.Call (.Name "isinstance" p) [e, e2] [] pos) (tH X.K g i a dx t (.bl b)) :=
  PEimp (pe_callB (X := X.suite a ((a, oe) :: pn)) (call_isa T hz hf hk) hg hm hb (pa_cons ho (pa_cons hc pa_nil h2) h1) (he := h1) (hpl := hpl)) fun σ H Q ⟨F, I, q⟩ => by
    obtain ⟨v, e1, _⟩ := I.th
    exact ⟨.ref a, I.slot, rfl, ⟨_, e1⟩, q _ H F I.fr (.bl b)⟩
theorem he_not (h : PE (X.suite a ((a, oe) :: pn)) e (tH X.K g i a dx t (.bl b))) : PE (X.suite a ((a, oe) :: pn)) (.UnaryOp .Not e pos) (tH X.K g i a dx t (.bl (!b))) := PEimp (pe_not h) fun σ H Q ⟨F, I, q⟩ =>
  ⟨F, I, fun u H1 F1 r1 i1 => by cases i1; exact ⟨b, rfl, q _ H1 F1 r1 (.bl _)⟩⟩
end
/-! ### several clauses, each with a name -/
/-- what the clauses wish of an error of the body -/
def wAses (K : PySem.W.Frag) (Wout : WX) (D : Ends) : List (Value × Nat × (Addr → Value → Option Addr → TS)) → WX
  | [] => Wout
  | (c, i, ts) :: r => fun cls d σ H => ∃ b, PySem.W.exmOne K cls c = some b ∧
      (b = true → ∀ a, H a = none → ts a cls d { nx := fun σ' H' => D.nx (σ'.set i none) H', rt := D.rt, bk := fun σ' H' => D.bk (σ'.set i none) H', ct := fun σ' H' => D.ct (σ'.set i none) H' } (σ.set i (some (.ref a))) H) ∧
      (b = false → wAses K Wout D r cls d σ H)
inductive HdsAs (X : Cx) : List ExceptHandler → List (Value × Nat × (Addr → Value → Option Addr → TS)) → Prop
  | nil : HdsAs X [] []
  | cons {x n : Str} {c : Value} {i : Nat} {ts : Addr → Value → Option Addr → TS} {b₀ : Stmt} {suite : List Stmt} {np pos' : Pos} {hds : List ExceptHandler} {l : List (Value × Nat × (Addr → Value → Option Addr → TS))} (hc : Names X x c) (hi : X.N[i]? = some n) (hln : X.env.kindOf n = some .local)
      (hsu : ∀ (a : Addr) (oe : Obj) (cls : Value) (d : Option Addr) (pn : List (Addr × Obj)), Zc cls d oe → (∃ vs, oe.data = .fields vs) → PSs (X.suite a ((a, oe) :: pn)) (b₀ :: suite) (ts a cls d)) (r : HdsAs X hds l) :
      HdsAs X (.ExceptHandler (some (.Name x np)) (some n) (b₀ :: suite) pos' :: hds) ((c, i, ts) :: l)
section
variable {X : Cx} {body : List Stmt} {h₀ : ExceptHandler} {hds : List ExceptHandler} {l : List (Value × Nat × (Addr → Value → Option Addr → TS))} {pos : Pos} {tb : WX → TS} {Wout : WX}
theorem ps_try_ases (hs : X.stack = X.env :: X.outer) (hf : X.env.frame = some X.env.locals) (hN : X.N.Nodup) (tk : L2.Takes X Wout)
    (hb : ∀ (W : WX) (pn : List (Addr × Obj)) (xe : Value → Shared → Prop), L2.Takes (X.tr pn xe) W → PassesOwn (model X.prog X.w) X.A X.env xe → PSs (X.tr pn xe) body (tb W))
    (hh : HdsAs X (h₀ :: hds) l) : PS X (.Try body (h₀ :: hds) [] [] pos) (fun D σ H => tb (wAses X.K Wout D l) D σ H) := by
  refine ⟨fun pins s σ H D I h => ?_⟩
  have ok := I.ok
  have frm : X.A.frames = some (X.env :: X.outer) := by rw [ok.frames, hs]
  refine wpAny_Try_except ?_
  have run := (hb (wAses X.K Wout D l) (X.pn ++ pins) (fun e s₁ => wpAny (model X.prog X.w) X.A (noteFrame e X.env) (fun _ s₂ => wpAny (model X.prog X.w) X.A (setFlight e none) (fun _ s₃ =>
    wpAny (model X.prog X.w) X.A (handleBy e X.env (h₀ :: hds)) (SP X pins D) X.xe s₃) X.xe s₂) X.xe s₁) (fun u s' xx => ?_) PassesOwn.looking).run [] s σ H D (I.toTry _) h
  · refine wpAny_mono run (fun f s1 hsp => ?_) (fun e s1 he => he)
    cases f with
    | next => obtain ⟨σ', H', J', q⟩ := hsp; exact wpAny_execs_nil ⟨σ', H', J'.ofTry ok, q⟩
    | brk => obtain ⟨σ', H', J', q⟩ := hsp; exact ⟨σ', H', J'.ofTry ok, q⟩
    | cont => obtain ⟨σ', H', J', q⟩ := hsp; exact ⟨σ', H', J'.ofTry ok, q⟩
    | ret u => obtain ⟨v, σ', H', J', r, q⟩ := hsp; exact ⟨v, σ', H', J'.ofTry ok, r, q⟩
  · obtain ⟨a, B, sI, pins', σ', H', cls, d, rfl, J', nb, up, sky, na, os, ag, w⟩ := xx
    have J : L2.Inv X pins σ' H' sI := J'.ofTry ok
    refine L2.Sky.land Zc.steady frm hf (show L2.Sky B (X.env :: X.outer) a (Zc cls d) X.env.locals s'.heap by rw [← hs]; exact sky) fun h3 fl3 up3 => ?_
    have up13 := up.trans up3
    obtain ⟨oe3, vs3, he3, hz3, hd3⟩ := fl3.there
    have off : ∀ {hh : Heap} {o : Obj} {vs : Array Value}, hh.FunFrames B (X.env :: X.outer) → hh.get? a = some o → o.data = .fields vs → a ∉ frs (X.env :: X.outer) := fun {hh o vs} ff e1 e2 hm => by
      obtain ⟨_, o', e', nf⟩ := ff.mem hm
      rw [e1] at e'
      cases e'
      exact nf _ e2
    have n1 := off fl3.2.2.1 he3 hd3
    have nL : a ≠ X.env.locals := fun z => n1 (List.mem_filterMap.mpr ⟨X.env, List.mem_cons_self, by rw [hf, z]⟩)
    have nF : a ∉ X.fs := fun hm => by
      obtain ⟨v, hv, q⟩ := List.mem_filterMap.mp hm
      exact n1 (List.mem_filterMap.mpr ⟨v, List.mem_cons_of_mem _ hv, q⟩)
    have J3 : L2.Inv X pins σ' H' { s' with heap := h3 } := J.landed nb fl3.1 up13 os ag
    have S3 := J3.suite he3 hd3 na nL nF
    have LT : PySem.W.Looks (model X.prog X.w) h3 (typeOf (.ref a)) cls := fun A Q E s k q => wpAny_typeOf_ref (k _ _ he3) (by rw [hz3.1]; exact q)
    have go : ∀ {hd' : List ExceptHandler} {l' : List (Value × Nat × (Addr → Value → Option Addr → TS))}, HdsAs X hd' l' → wAses X.K Wout D l' cls d σ' H' →
        wpAny (model X.prog X.w) X.A (handleBy (.ref a) X.env hd') (SP X pins D) X.xe { s' with heap := h3 } := by
      intro hd' l' hk
      induction hk with
      | nil =>
        intro w
        refine wpAny_handleBy_nil ?_
        obtain ⟨_, _, _, oe, vs, T, oT, ts', g1, _, g3, g4, _⟩ := id fl3
        unfold PySem.passOn
        refine wpAny_bind (wpAny_field g1 g3 g4 ?_)
        rw [if_neg (show ¬ ((Value.ref T == Value.none) = true) from by simp)]
        have out : wpAny (model X.prog X.w) X.A (setFlight (.ref a) X.env.frame) (fun _ s4 => wpAny (model X.prog X.w) X.A (throw (.ref a) : Sem Flow) (SP X pins D) X.xe s4) X.xe { s' with heap := h3 } := by
          rw [hf]
          exact HandSPX.setFlight_upZ fl3 fun h4 hh4 up4 => wpAny_throw (tk _ _ ⟨a, B, sI, pins, σ', H', cls, d, rfl, J, nb, up13.trans up4, .inr (.inr (by rw [hs]; exact hh4)), na, os, ag, w⟩)
        first
          | exact wpAny_bind (wpAny_pure (wpAny_bind out))
          | exact wpAny_bind out
      | @cons x n c i ts b₀ suite np pos' hds l hc hi hln hsu r ih =>
        intro w
        obtain ⟨b, hb1, yes, no⟩ := w
        refine wpAny_handleBy_cons (codeAny_handlers_test ?_) (by intro q; cases q)
        have LM := PySem.W.exm_one (M := model X.prog X.w) J3.kIn LT hb1
        have ask : ∀ {Q E : Value → Shared → Prop}, Q c { s' with heap := h3 } → wpAny (model X.prog X.w) (X.A.mark (some (.ref a))) (eval (.Name x np) X.env) Q E { s' with heap := h3 } := fun {Q E} q => by
          obtain ⟨c1, c2, c3 | ⟨c3, c4, c5⟩⟩ := hc
          · exact ld_glob (X := X.suite a ((a, oe3) :: (X.pn ++ pins))) S3 c1 c3 q c2
          · exact ld_blt (X := X.suite a ((a, oe3) :: (X.pn ++ pins))) S3 c1 c3 c4 q c5 c2
        refine ask (LM.here ?_)
        cases b with
        | false => exact ih (no rfl)
        | true =>
          refine codeAny_handlers_suite_as ?_
          refine HandSPX.lands_againZ fl3 fun h4 fl4 up4 => ?_
          have J4 : L2.Inv X pins σ' H' { s' with heap := h4 } := J.landed nb fl4.1 (up13.trans up4) os ag
          obtain ⟨oe4, vs4, he4, hz4, hd4⟩ := fl4.there
          refine store_ok (X := X.suite a ((a, oe4) :: (X.pn ++ pins))) (v := .ref a) (J4.suite he4 hd4 na nL nF) hN hi (.inl hln) rfl (fun s5 S5 => ?_) (.inr hln)
          refine wpAny_mono ((hsu a oe4 cls d (X.pn ++ pins) hz4 ⟨_, hd4⟩).run [] s5 _ H' _ S5 (yes rfl a na)) (fun f s6 hsp => ?_) (fun _ _ z => False.elim z)
          have close : ∀ {σ6 : L2.St} {H6 : Hp} {Q : Shared → Prop}, L2.Inv (X.suite a ((a, oe4) :: (X.pn ++ pins))) [] σ6 H6 s6 → (∀ s7, L2.Inv X pins (σ6.set i none) H6 s7 → Q s7) →
              wpAny (model X.prog X.w) X.A (do bindName X.env n .none; unbindBehindTheSuite X.env n pos') (fun _ s7 => Q s7) X.xe s6 := fun S6 hq => gone_ok (S6.unsuite ok) hN hi hln hq
          cases f with
          | next => obtain ⟨σ6, H6, S6, q6⟩ := hsp; exact close S6 fun s7 J7 => ⟨_, _, J7, q6⟩
          | brk => obtain ⟨σ6, H6, S6, q6⟩ := hsp; exact close S6 fun s7 J7 => ⟨_, _, J7, q6⟩
          | cont => obtain ⟨σ6, H6, S6, q6⟩ := hsp; exact close S6 fun s7 J7 => ⟨_, _, J7, q6⟩
          | ret u => obtain ⟨v6, σ6, H6, S6, r6, q6⟩ := hsp; exact close S6 fun s7 J7 => ⟨_, _, _, J7, r6, q6⟩
    exact go hh w
end
/-! ### try over data -/
/-- what the clauses hand back of an error n carrying t: (which classes, what) -/
def tryX (q : D → Prop) : List ((Str → Bool) × (Str → D → D)) → XD
  | [] => fun _ _ => False
  | (mt, hv) :: r => fun n t => if mt n = true then q (hv n t) else tryX q r n t
def fTry (errs : List Str) (b : FS) (l : List ((Str → Bool) × (Str → D → D))) : FS := fun ρ d => b ρ { d with x := fun n t => n ∈ errs ∧ tryX d.rt l n t }
inductive HC (X : Cx) (g : Gd) (errs : List Str) : List ExceptHandler → List ((Str → Bool) × (Str → D → D)) → Prop
  | nil : HC X g errs [] []
  | cons {x nm : Str} {C : Addr} {i : Nat} {e : Expr} {np rp pos' : Pos} {hds : List ExceptHandler} {mt : Str → Bool} {hv : Str → D → D} {l : List ((Str → Bool) × (Str → D → D))} (hc : Names X x (.ref C)) (hi : X.N[i]? = some nm) (hln : X.env.kindOf nm = some .local)
      (hm : ∀ n ∈ errs, PySem.W.exmOne X.K (.ref (He.ga X.K n)) (.ref C) = some (mt n))
      (he : ∀ n ∈ errs, ∀ (a dx : Addr) (oe : Obj) (pn : List (Addr × Obj)) (t : D), Zc (.ref (He.ga X.K n)) (some dx) oe → (∃ vs, oe.data = .fields vs) → PE (X.suite a ((a, oe) :: pn)) e (tH X.K g i a dx t (hv n t)))
      (r : HC X g errs hds l) : HC X g errs (.ExceptHandler (some (.Name x np)) (some nm) [.Return (some e) rp] pos' :: hds) ((mt, hv) :: l)
section
variable {X : Cx} {g : Gd} {errs : List Str} {hds : List ExceptHandler} {l : List ((Str → Bool) × (Str → D → D))}
/-- one suite's reading -/
def tsH (K : PySem.W.Frag) (g : Gd) (errs : List Str) (i : Nat) (hv : Str → D → D) (a : Addr) (cls : Value) (d : Option Addr) : TS := fun D σ H => ∃ (n : Str) (dx : Addr) (t : DL.D) (F : Hp), n ∈ errs ∧ cls = .ref (He.ga K n) ∧ d = some dx ∧ HIn K g σ H F i a dx t ∧ ∀ u H' F', Fr g H F H' F' → Is K F' u (hv n t) → D.rt u H'
theorem HC.as (h : HC X g errs hds l) : ∃ l', HdsAs X hds l' ∧ ∀ (D : Ends) (σ : L2.St) (H F : Hp) (n : Str) (dx : Addr) (v : V) (t : DL.D) (q : DL.D → Prop), σ.length = X.N.length → n ∈ errs → Fr g H F H F → ¬ g.M dx → H dx = some (.xd [("thing", v)]) → Is X.K F v t → tryX q l n t →
    (∀ u H' F' r, Fr g H F H' F' → Is X.K F' u r → q r → D.rt u H') → wAses X.K (fun _ _ _ _ => False) D l' (.ref (He.ga X.K n)) (some dx) σ H := by
  induction h with
  | nil => exact ⟨[], .nil, fun D σ H F n dx v t q _ _ _ _ _ _ z => z.elim⟩
  | @cons x nm C i e np rp pos' hds mt hv l hc hi hln hm he r ih =>
    obtain ⟨l', h1, h2⟩ := ih
    refine ⟨(.ref C, i, tsH X.K g errs i hv) :: l', .cons hc hi hln (fun a oe cls d pn hz hf => ?_) h1, fun D σ H F n dx v t q hl hn fr nM e1 e2 ht hq => ⟨mt n, hm n hn, fun hb a na => ?_, fun hb => ?_⟩⟩
    · refine pss_one ⟨fun pins s σ H D I q => ?_⟩
      obtain ⟨n, dx, t, F, hn, rfl, rfl, hI, hq⟩ := q
      exact (ps_ret (he n hn a dx oe pn t hz hf)).run pins s σ H D I ⟨F, hI, hq⟩
    · have hlt : i < σ.length := by rw [hl]; exact (List.getElem?_eq_some_iff.mp hi).1
      have ht : (if mt n = true then q (hv n t) else tryX q l n t) := ht
      rw [if_pos hb] at ht
      exact ⟨n, dx, t, F, hn, rfl, rfl, ⟨List.getElem?_set_self hlt, fr, nM, v, e1, e2⟩, fun u H' F' r is => hq u H' F' _ r is ht⟩
    · have ht : (if mt n = true then q (hv n t) else tryX q l n t) := ht
      rw [if_neg (by rw [hb]; exact Bool.false_ne_true)] at ht
      exact h2 D σ H F n dx v t q hl hn fr nM e1 e2 ht hq
variable {E : XK} {mb m m' : List Nat} {body : List Stmt} {h₀ : ExceptHandler} {fb : FS} {pos : Pos}
theorem ds_try (hs : X.stack = X.env :: X.outer) (hf : X.env.frame = some X.env.locals) (hN : X.N.Nodup)
    (hb : ∀ (E' : XK) (pn : List (Addr × Obj)) (xe : Value → Shared → Prop), Tk (X.tr pn xe) E' → PassesOwn (model X.prog X.w) X.A X.env xe → DSs (X.tr pn xe) g E' false mb m m' body fb)
    (hh : HC X g errs (h₀ :: hds) l) : DS X g E false mb m m' (.Try body (h₀ :: hds) [] [] pos) (fTry errs fb l) := by
  obtain ⟨l', h1, h2⟩ := hh.as
  refine PSimp (ps_try_ases (tb := fun W => fun D σ H => ∃ E' : XK, (∀ cls d σ' H', σ'.length = X.N.length → E' cls d H' → W cls d σ' H') ∧ tS X.K g E' false mb m m' fb D σ H) hs hf hN takes0 (fun W pn xe tk hp => ⟨fun pins s σ H D I ⟨E', q1, q2⟩ => ?_⟩) h1) fun D σ H ⟨H0, F0, F, ρ, d, R, hfb, k1, k2, k3, k4, k5⟩ => ?_
  · refine (hb E' pn xe (fun u s' ⟨a, B, sI, pins, σ, H, cls, d, e, I, nb, up, sky, na, os, ag, w⟩ => ?_) hp).run pins s σ H D I q2
    exact tk u s' ⟨a, B, sI, pins, σ, H, cls, d, e, I, nb, up, sky, na, os, ag, q1 cls d σ H I.len w⟩
  · refine ⟨fun cls dd H' => ∃ (n : Str) (dx : Addr) (F' : Hp) (v : V) (t : DL.D), cls = .ref (He.ga X.K n) ∧ dd = some dx ∧ Fr g H0 F0 H' F' ∧ H0 dx = none ∧ H' dx = some (.xd [("thing", v)]) ∧ Is X.K F' v t ∧ n ∈ errs ∧ tryX d.rt l n t, ?_, H0, F0, F, ρ, _, R, hfb, k1, k2, k3, k4, fun n dx H' F' v t r n0 e1 e2 hx => ⟨n, dx, F', v, t, rfl, rfl, r, n0, e1, e2, hx.1, hx.2⟩⟩
    rintro cls dd σ' H' hl ⟨n, dx, F', v, t, rfl, rfl, r, n0, e1, e2, hn, ht⟩
    exact h2 D σ' H' F' n dx v t d.rt hl hn r.self (fun z => (r.nm dx z).2 n0) e1 e2 ht fun u H2 F2 rr r2 is hq => k4 u H2 F2 rr (r.trans r2) is hq
end
end DL

/-! DL18: the classes of errors, told by the head. -/
namespace DL
open PySem PySem.Spec PyProof.Rows L2
/-- n is a c: all classes of errors stand right under StepError -/
def isErr (n c : Str) : Bool := decide (n = c) || decide (c = "StepError")
structure ErrF (K : PySem.W.Frag) (mg : Str → Option Value) (x : Str) : Prop where
  g : mg x = some (.ref (He.ga K x))
  c : ErrC K (He.ga K x)
  x : ErrX K (He.ga K x)
def errB (K : PySem.W.Frag) (C : Addr) : Bool :=
  PySem.W.excInitIn K C bmE "Exception.__new__" && (PySem.W.excOver K C bmE && (decide (PySem.W.findIn K (.ref C) "thing" = some none) && (decide (PySem.W.findIn K (.ref C) "__setattr__" = some (some (.builtin "object.__setattr__"))) && (PySem.W.hasDictIn K C && (decide (PySem.W.subIn K (.ref C) (.type "BaseException") = some true) && (decide (PySem.W.typeIn K (.ref C) = some (.type "type")) && (PySem.W.keepIn K (.ref C) &&
  (decide (PySem.W.findIn K (.ref C) "__getattribute__" = some (some (.builtin "BaseException.__getattribute__"))) && (decide (PySem.W.findIn K (.ref C) "__getattr__" = some none) && ((PySem.W.clsIn K C).isSome && (decide (PySem.W.findIn K (.ref C) "__class__" = some (some (.builtin "object.__class__"))) && (decide (PySem.W.specialIn K (.builtin "object.__class__") "__get__" = some (some (.builtin "getset_descriptor.__get__"))) && (decide (PySem.W.takesIn K (.builtin "object.__class__") = some true) && decide (PySem.W.mroIn K C (.type "object") = some true))))))))))))))
theorem errB_ok {K : PySem.W.Frag} {C : Addr} (h : errB K C = true) : ErrC K C ∧ ErrX K C := by
  obtain ⟨h1, h⟩ := bltM h
  obtain ⟨h2, h⟩ := bltM h
  obtain ⟨h3, h⟩ := bltM h
  obtain ⟨h4, h⟩ := bltM h
  obtain ⟨h5, h⟩ := bltM h
  obtain ⟨h6, h⟩ := bltM h
  obtain ⟨h7, h⟩ := bltM h
  obtain ⟨h8, h⟩ := bltM h
  obtain ⟨h9, h⟩ := bltM h
  obtain ⟨h10, h⟩ := bltM h
  obtain ⟨h11, h⟩ := bltM h
  obtain ⟨h12, h⟩ := bltM h
  obtain ⟨h13, h⟩ := bltM h
  obtain ⟨h14, h15⟩ := bltM h
  exact ⟨⟨h1, h2, of_decide_eq_true h3, of_decide_eq_true h4, h5, of_decide_eq_true h6, of_decide_eq_true h7, h8⟩,
    ⟨of_decide_eq_true h9, of_decide_eq_true h10, of_decide_eq_true h6, h5⟩, of_decide_eq_true h3,
    fun x ox od => PySem.W.kitx_exc h11 (of_decide_eq_true h9) (of_decide_eq_true h10) (of_decide_eq_true h6) (of_decide_eq_true h12) (of_decide_eq_true h13) (of_decide_eq_true h14) (of_decide_eq_true h15)⟩
/-- the table of classes -/
def exmB (K : PySem.W.Frag) (errs cls : List Str) : Bool := errs.all fun n => cls.all fun c => decide (PySem.W.exmOne K (.ref (He.ga K n)) (.ref (He.ga K c)) = some (isErr n c)) && decide (PySem.W.kitOne K (.ref (He.ga K n)) (.ref (He.ga K c)) = some (isErr n c))
theorem exmB_ok {K : PySem.W.Frag} {errs cls : List Str} (h : exmB K errs cls = true) (n : Str) (hn : n ∈ errs) (c : Str) (hc : c ∈ cls) : PySem.W.exmOne K (.ref (He.ga K n)) (.ref (He.ga K c)) = some (isErr n c) ∧ PySem.W.kitOne K (.ref (He.ga K n)) (.ref (He.ga K c)) = some (isErr n c) := by
  have h1 := List.all_eq_true.mp (List.all_eq_true.mp h n hn) c hc
  obtain ⟨a, b⟩ := bltM h1
  exact ⟨of_decide_eq_true a, of_decide_eq_true b⟩
theorem meth_at {K : PySem.W.Frag} {x m : Str} (c : (He.Fa.meth x m).ok K = true) : PySem.W.findIn K (.ref (He.ga K x)) m = some (some (.ref (He.ma K (He.ga K x) m))) ∧ PySem.W.typeIn K (.ref (He.ma K (He.ga K x) m)) = some (.type "function") := by
  obtain ⟨h1, h⟩ := bltM c
  obtain ⟨h2, _⟩ := bltM h
  exact ⟨He.eqO_ok h1, by simpa [PySem.W.isFn] using h2⟩
/-! ### is None, is True -/
def sIs2 (neg : Bool) : D → D → (D → Prop) → XD → Prop := fun a b q _ => match b with
  | .non => q (.bl (neg ^^ a.isNon))
  | .bl v => (match a with | .bl u => q (.bl (neg ^^ decide (u = v))) | _ => False)
  | _ => False
theorem cd_is2 {X : Cx} : CmpD X .Is (sIs2 false) := ⟨_, op_isN.or op_isBl, fun g E H F v w a b q x Q r ia ib hs hq hx => by
  unfold sIs2 at hs
  split at hs
  · rw [Bool.false_xor, ← ia.isNon] at hs
    exact .inl ⟨ib.non, hq _ H F _ r (.bl _) hs⟩
  · split at hs
    · rw [Bool.false_xor] at hs
      exact .inr ⟨_, _, ia.bl, ib.bl, hq _ H F _ r (.bl _) hs⟩
    · exact hs.elim
  · exact hs.elim⟩
theorem cd_isNot2 {X : Cx} : CmpD X .IsNot (sIs2 true) := ⟨_, op_notN.or op_notBl, fun g E H F v w a b q x Q r ia ib hs hq hx => by
  unfold sIs2 at hs
  split at hs
  · rw [Bool.true_xor, ← ia.isNon] at hs
    exact .inl ⟨ib.non, hq _ H F _ r (.bl _) hs⟩
  · split at hs
    · rw [Bool.true_xor] at hs
      exact .inr ⟨_, _, ia.bl, ib.bl, hq _ H F _ r (.bl _) hs⟩
    · exact hs.elim
  · exact hs.elim⟩
theorem ev_is2n (q : D → Prop) (x : XD) (n : Bool) (a : D) : sIs2 n a .non q x = q (.bl (n ^^ a.isNon)) := rfl
theorem ev_is2b (q : D → Prop) (x : XD) (n u v : Bool) : sIs2 n (.bl u) (.bl v) q x = q (.bl (n ^^ decide (u = v))) := rfl
end DL

/-! DL20: dicts written with constant keys; str, bool. -/
namespace DL
open PySem PySem.Spec PyProof.Rows L2
theorem valV_not {k : Key} : ∀ {kvs : List (Key × V)}, k ∉ kvs.map (·.1) → valV kvs k = none
  | [], _ => valV_nil
  | p :: r, h => by
    rw [List.map_cons, List.mem_cons, not_or] at h
    rw [valV_neg (fun e => h.1 e.symm)]
    exact valV_not h.2
theorem merge_zip : ∀ (ks : List Key) (vs : List V) (acc : List (Key × V)), (acc.map (·.1) ++ ks).Nodup → mergeK acc (ks.zip vs) = acc ++ ks.zip vs
  | [], vs, acc, _ => by rw [List.zip_nil_left, List.append_nil]; rfl
  | k :: ks, [], acc, _ => by rw [List.zip_nil_right, List.append_nil]; rfl
  | k :: ks, v :: vs, acc, h => by
    have hk : k ∉ acc.map (·.1) := fun z => (List.nodup_append.mp h).2.2 _ z _ (List.mem_cons_self ..) rfl
    rw [List.zip_cons_cons]
    show mergeK (putK acc k v) (ks.zip vs) = _
    rw [putK_new v (valV_not hk), merge_zip ks vs _ (by rw [List.map_append, List.append_assoc]; exact h), List.append_assoc]
    rfl
def fDic (ks : List Key) (fs : FA) : FE := fun ρ q x => fs ρ (fun ds => q (.dic ks ds)) x
def tP (K : PySem.W.Frag) (g : Gd) (E : XK) (m : List Nat) (ks : List Key) (fs : FA) : L2.St → Hp → (List (V × V) → Hp → Prop) → Prop := fun σ H Q => ∃ H0 F0 F ρ q x, Rel K g H0 F0 m σ H F ρ ∧ fs ρ q x ∧
  (∀ vs H' F' ds, Fr g H F H' F' → vs.length = ks.length → IsAll K F' vs ds → q ds → Q ((ks.map kV).zip vs) H') ∧ XE K g H F x E
def DP (X : Cx) (g : Gd) (E : XK) (m : List Nat) (pos : Pos) (keys : List (Option Expr)) (values : List Expr) (ks : List Key) (fs : FA) : Prop := ∃ trs, PPs X pos keys values trs ∧ ∀ σ H Q, tP X.K g E m ks fs σ H Q → tPairs trs σ H Q
section
variable {X : Cx} {g : Gd} {E : XK} {m : List Nat} {e key : Expr} {f : FE} {fs : FA} {k : Key} {ks : List Key} {keys : List (Option Expr)} {values : List Expr} {pos p : Pos} {fa : FE} {a : Expr}
theorem dp_nil : DP X g E m pos [] [] [] fNil := ⟨[], pps_nil, fun σ H Q ⟨H0, F0, F, ρ, q, x, R, hf, hq, hx⟩ => hq [] H F [] R.fr.self rfl .nil hf⟩
theorem dp_cons (hk : PE X key (tC (kV k))) (hv : DE X g E m e f) (hr : DP X g E m pos keys values ks fs) : DP X g E m pos (some key :: keys) (e :: values) (k :: ks) (fCons f fs) := by
  obtain ⟨trs, h1, h2⟩ := hr
  refine ⟨(tC (kV k), tE X.K g E m f) :: trs, pps_cons hk hv h1, fun σ H Q ⟨H0, F0, F, ρ, q, x, R, hf, hq, hx⟩ => ?_⟩
  refine ⟨H0, F0, F, ρ, _, x, R, hf, fun v H1 F1 d r1 i1 hd => ?_, hx⟩
  refine h2 σ H1 _ ⟨H0, F0, F1, ρ, _, x, R.step r1, hd, fun vs H2 F2 ds r2 hl i2 hq2 => ?_, hx.step r1⟩
  exact hq (v :: vs) H2 F2 (d :: ds) (r1.trans r2) (congrArg (· + 1) hl) (.cons (i1.up r2.f0) i2) hq2
theorem de_dic (h : DP X g E m pos keys values ks fs) (hn : ks.Nodup) (hall : keys.all (·.isSome) = true) (hl : keys.length = values.length) (h0 : keys ≠ []) (h15 : keys.length ≤ 15) (hkl : ks.length ≤ 15) : DE X g E m (.Dict keys values pos) (fDic ks fs) := by
  obtain ⟨trs, h1, h2⟩ := h
  refine PEimp (pe_disp h1 hall hl h0 h15) fun σ H Q ⟨H0, F0, F, ρ, q, x, R, hf, hq, hx⟩ p hp => ?_
  have r0 := R.fr.newO (o := .dK []) hp
  have hM := R.fr.freeM hp
  have hF := R.fr.freeF hp
  refine h2 σ _ _ ⟨H0, F0, F, ρ, _, x, R.step r0, hf, fun vs H2 F2 ds r1 hl2 i hq2 => ?_, hx.step r0⟩
  have hH2 : H2 p = some (.dK []) := r1.pre p _ hM upd_same
  have hF2 : F2 p = none := (r1.old p (by rw [upd_same]; exact fun z => nomatch z)).trans hF
  refine ⟨hH2, ks.zip vs, ?_, ?_, ?_⟩
  · rw [List.zip_map_left]; rfl
  · rw [List.length_zip, hl2, Nat.min_self]; exact hkl
  · rw [merge_zip ks vs [] (by exact hn), List.nil_append]
    exact hq (.ref p) _ (upd F2 p (.dK (ks.zip vs))) _ (((r0.trans r1).write (o := .dK (ks.zip vs)) hp hF2).freeze upd_same hp hF2) (.dic upd_same hl2.symm (i.up (upd_ex hF2))) hq2
theorem dk_int {i : Int} {j : Nat} : PE X (.Constant (.int i) j pos) (tC (kV (.inl i))) := pe_int
theorem dk_str {x : Str} {j : Nat} : PE X (.Constant (.str x) j pos) (tC (kV (.inr x))) := pe_str
/-- str of an integer -/
def sStr : Sem1T := fun a q _ => match a with | .int i => i.natAbs.log2 < 1920 ∧ q (.str (toString i)) | _ => False
theorem de_str1 (hg : Gl X "str") (hm : X.mg "str" = none) (ha : DB X g E m a fa) (hb : bootBuiltins "str" = some (.type "str") := by decide +kernel) (h1 : starEach [a] X.env = (false, eval a X.env) :: starEach [] X.env := by rfl) : DE X g E m (.Call (.Name "str" p) [a] [] pos) (f1 sStr fa) :=
  de_1 (pe_callTy call_str_int hg hm hb (pa_cons ha pa_nil h1) (he := h1)) fun g E H F v a q x Q r ia hs hq hx => by
  unfold sStr at hs
  split at hs
  · rw [ia.int]
    exact ⟨_, rfl, hs.1, hq _ H F _ r (.str _) hs.2⟩
  · exact hs.elim
/-- bool of an integer -/
def sBool : Sem1T := fun a q _ => match a with | .int i => q (.bl (i != 0)) | .bl b => q (.bl b) | _ => False
theorem de_bool1 (hg : Gl X "bool") (hm : X.mg "bool" = none) (ha : DB X g E m a fa) (hb : bootBuiltins "bool" = some (.type "bool") := by decide +kernel) (h1 : starEach [a] X.env = (false, eval a X.env) :: starEach [] X.env := by rfl) : DE X g E m (.Call (.Name "bool" p) [a] [] pos) (f1 sBool fa) :=
  de_1 (pe_callTy call_bool1 hg hm hb (pa_cons ha pa_nil h1) (he := h1)) fun g E H F v a q x Q r ia hs hq hx => by
  unfold sBool at hs
  split at hs
  · rw [ia.int]
    exact .inl ⟨_, rfl, hq _ H F _ r (.bl _) hs⟩
  · rw [ia.bl]
    exact .inr ⟨_, rfl, hq _ H F _ r (.bl _) hs⟩
  · exact hs.elim
end
/-! ### a def that is never called: the end of a recursion -/
section
variable {P : Program} {w : World} {K : PySem.W.Frag} {mg : Str → Option Value} {base : Heap} {CX : CXT} {k : Nat} {f : Addr} {fd : FuncData} {ps : List Str} {nm : Str} {kd : Bool}
theorem none_G : FnG P w K mg base CX k f fd ps (spG K nm kd fun _ _ _ => False) :=
  ⟨fun _ _ _ _ ⟨_, _, _, _, _, _, _, _, hf, _⟩ => hf.elim, fun _ _ _ _ _ _ _ _ _ _ _ _ _ _ ⟨_, _, _, _, _, _, _, _, hf, _⟩ => hf.elim⟩
theorem none_N : FnG P w K mg base CX k f fd ps (spN K kd fun _ _ _ => False) :=
  ⟨fun _ _ _ _ ⟨_, _, _, _, _, _, hf, _⟩ => hf.elim, fun _ _ _ _ _ _ _ _ _ _ _ _ _ _ ⟨_, _, _, _, _, _, hf, _⟩ => hf.elim⟩
end
end DL

/-! DN1: numbers a + b root(d) over the rationals. -/
namespace DN
/-- a + b root(d) -/
@[ext] structure El (d : Int) where
  a : Rat
  b : Rat
namespace El
variable {d : Int}
instance : Add (El d) := ⟨fun x y => ⟨x.a + y.a, x.b + y.b⟩⟩
instance : Mul (El d) := ⟨fun x y => ⟨x.a * y.a + x.b * y.b * d, x.a * y.b + x.b * y.a⟩⟩
instance : Neg (El d) := ⟨fun x => ⟨-x.a, -x.b⟩⟩
instance : Sub (El d) := ⟨fun x y => ⟨x.a - y.a, x.b - y.b⟩⟩
instance : NatCast (El d) := ⟨fun n => ⟨n, 0⟩⟩
instance : IntCast (El d) := ⟨fun n => ⟨n, 0⟩⟩
instance (n : Nat) : OfNat (El d) n := ⟨⟨(n : Rat), 0⟩⟩
theorem add_def (x y : El d) : x + y = ⟨x.a + y.a, x.b + y.b⟩ := rfl
theorem mul_def (x y : El d) : x * y = ⟨x.a * y.a + x.b * y.b * d, x.a * y.b + x.b * y.a⟩ := rfl
theorem neg_def (x : El d) : -x = ⟨-x.a, -x.b⟩ := rfl
theorem sub_def (x y : El d) : x - y = ⟨x.a - y.a, x.b - y.b⟩ := rfl
def pow (x : El d) : Nat → El d
  | 0 => 1
  | n + 1 => pow x n * x
instance : HPow (El d) Nat (El d) := ⟨pow⟩
instance : SMul Nat (El d) := ⟨fun n x => (n : El d) * x⟩
instance : SMul Int (El d) := ⟨fun n x => (n : El d) * x⟩
theorem zero_def : (0 : El d) = ⟨0, 0⟩ := rfl
theorem one_def : (1 : El d) = ⟨1, 0⟩ := rfl
theorem intCast_def (n : Int) : ((n : Int) : El d) = ⟨(n : Rat), 0⟩ := rfl
theorem natCast_def (n : Nat) : ((n : Nat) : El d) = ⟨(n : Rat), 0⟩ := rfl
instance : Lean.Grind.CommRing (El d) where
  add_zero x := by ext <;> simp only [add_def, zero_def] <;> grind
  add_comm x y := by ext <;> simp only [add_def] <;> grind
  add_assoc x y z := by ext <;> simp only [add_def] <;> grind
  mul_assoc x y z := by ext <;> simp only [mul_def] <;> grind
  mul_one x := by ext <;> simp only [mul_def, one_def] <;> grind
  one_mul x := by ext <;> simp only [mul_def, one_def] <;> grind
  left_distrib x y z := by ext <;> simp only [mul_def, add_def] <;> grind
  right_distrib x y z := by ext <;> simp only [mul_def, add_def] <;> grind
  zero_mul x := by ext <;> simp only [mul_def, zero_def] <;> grind
  mul_zero x := by ext <;> simp only [mul_def, zero_def] <;> grind
  pow_zero x := rfl
  pow_succ x n := rfl
  ofNat_succ n := by
    show (⟨((n + 1 : Nat) : Rat), 0⟩ : El d) = ⟨(n : Rat), 0⟩ + 1
    rw [one_def, add_def]
    ext
    · show ((n + 1 : Nat) : Rat) = (n : Rat) + 1
      grind
    · show (0 : Rat) = 0 + 0
      grind
  ofNat_eq_natCast n := rfl
  nsmul_eq_natCast_mul n x := rfl
  neg_add_cancel x := by ext <;> simp only [neg_def, add_def, zero_def] <;> grind
  sub_eq_add_neg x y := by ext <;> simp only [neg_def, add_def, sub_def] <;> grind
  neg_zsmul i x := by
    show ((-i : Int) : El d) * x = -(((i : Int) : El d) * x)
    ext <;> simp only [intCast_def, mul_def, neg_def] <;> grind
  zsmul_natCast_eq_nsmul n x := by
    show (((n : Nat) : Int) : El d) * x = ((n : Nat) : El d) * x
    have e : ((((n : Nat) : Int) : Int) : Rat) = ((n : Nat) : Rat) := Rat.intCast_natCast n
    ext <;> simp only [intCast_def, natCast_def, mul_def, e]
  intCast_ofNat n := by
    show (⟨((OfNat.ofNat n : Int) : Rat), 0⟩ : El d) = ⟨(n : Rat), 0⟩
    ext
    · show ((OfNat.ofNat n : Int) : Rat) = (n : Rat)
      exact Rat.intCast_natCast n
    · rfl
  intCast_neg i := by
    show (⟨((-i : Int) : Rat), 0⟩ : El d) = -⟨(i : Rat), 0⟩
    rw [neg_def]
    ext
    · show ((-i : Int) : Rat) = -(i : Rat)
      grind
    · show (0 : Rat) = -0
      grind
  mul_comm x y := by ext <;> simp only [mul_def] <;> grind
end El
example {d : Int} (x y z : El d) : (x + y) * z * z = z * z * x + y * z * z := by grind
end DN

/-! DN2: a number's tuple in lowest terms: one and no other. -/
namespace DN
open DL
theorem rcast_inj {i j : Int} (h : (i : Rat) = (j : Rat)) : i = j := Rat.intCast_inj.mp h
theorem rcast_mul (i j : Int) : ((i * j : Int) : Rat) = (i : Rat) * (j : Rat) := Rat.intCast_mul i j
theorem rcast_ne {i : Int} (h : i ≠ 0) : (i : Rat) ≠ 0 := fun z => h (rcast_inj (by rw [z]; rfl))
/-- p, q, s: the number in lowest terms -/
structure Canon {d : Int} (e : El d) (p q s : Int) : Prop where
  pos : 0 < s
  low : gcdI (gcdI p q) s = 1
  hp : (p : Rat) = e.a * s
  hq : (q : Rat) = e.b * s
theorem gcdI_assoc_mul {p q s k : Int} (hk : 0 ≤ k) : gcdI (gcdI (p * k) (q * k)) (s * k) = gcdI (gcdI p q) s * k := by
  rw [gcdI_eq, gcdI_eq, gcdI_eq, gcdI_eq, Int.gcd_mul_right]
  have h : ((k.natAbs : Nat) : Int) = k := by omega
  rw [Int.natCast_mul, h, Int.gcd_mul_right, Int.natCast_mul, h]
theorem dvd_gcd3 {t p q s : Int} (h1 : t ∣ p) (h2 : t ∣ q) (h3 : t ∣ s) : t ∣ gcdI (gcdI p q) s := by
  rw [gcdI_eq]
  refine Int.dvd_coe_gcd ?_ h3
  rw [gcdI_eq]
  exact Int.dvd_coe_gcd h1 h2
theorem Canon.dvd {d : Int} {e : El d} {p q s p' q' s' : Int} (h : Canon e p q s) (h' : Canon e p' q' s') : s ∣ s' := by
  have e1 : p * s' = p' * s := rcast_inj (by rw [rcast_mul, rcast_mul, h.hp, h'.hp]; grind)
  have e2 : q * s' = q' * s := rcast_inj (by rw [rcast_mul, rcast_mul, h.hq, h'.hq]; grind)
  have k := dvd_gcd3 (t := s) (p := p * s') (q := q * s') (s := s * s') (by rw [e1]; exact Int.dvd_mul_left ..) (by rw [e2]; exact Int.dvd_mul_left ..) (Int.dvd_mul_right ..)
  rw [gcdI_assoc_mul (by have := h'.pos; omega), h.low, Int.one_mul] at k
  exact k
theorem Canon.uniq {d : Int} {e : El d} {p q s p' q' s' : Int} (h : Canon e p q s) (h' : Canon e p' q' s') : p = p' ∧ q = q' ∧ s = s' := by
  have hs : s = s' := by
    have h1 := h.dvd h'
    have h2 := h'.dvd h
    have := h.pos; have := h'.pos
    exact Int.dvd_antisymm (by omega) (by omega) h1 h2
  subst hs
  exact ⟨rcast_inj (h.hp.trans h'.hp.symm), rcast_inj (h.hq.trans h'.hq.symm), rfl⟩
theorem gcd3_mul (g p q s : Int) : gcdI (gcdI (g * p) (g * q)) (g * s) = (g.natAbs : Int) * gcdI (gcdI p q) s := by
  unfold gcdI
  rw [Int.natAbs_mul, Int.natAbs_mul, Int.natAbs_mul, Nat.gcd_mul_left, Int.natAbs_natCast, Int.natAbs_natCast, Nat.gcd_mul_left, Int.natCast_mul]
/-- brought to lowest terms -/
theorem Canon.reduce {d : Int} {e : El d} {P Q S g : Int} (hS : S ≠ 0) (h1 : (P : Rat) = e.a * S) (h2 : (Q : Rat) = e.b * S) (hg : g = if S > 0 then gcdI (gcdI P Q) S else -gcdI (gcdI P Q) S) :
    Canon e (P.fdiv g) (Q.fdiv g) (S.fdiv g) ∧ g ≠ 0 := by
  have gp := gcdI_pos (a := gcdI P Q) (b := S) hS
  have d3 : gcdI (gcdI P Q) S ∣ S := gcdI_dvd_r ..
  have d0 : gcdI (gcdI P Q) S ∣ gcdI P Q := gcdI_dvd_l ..
  have d1 : gcdI (gcdI P Q) S ∣ P := Int.dvd_trans d0 (gcdI_dvd_l ..)
  have d2 : gcdI (gcdI P Q) S ∣ Q := Int.dvd_trans d0 (gcdI_dvd_r ..)
  have g0 : g ≠ 0 := by rw [hg]; split <;> omega
  have gd : ∀ {z : Int}, gcdI (gcdI P Q) S ∣ z → g ∣ z := fun {z} hz => by
    rw [hg]; split
    · exact hz
    · exact Int.neg_dvd.mpr hz
  obtain ⟨p, rfl⟩ := gd d1
  obtain ⟨q, rfl⟩ := gd d2
  obtain ⟨s, rfl⟩ := gd d3
  rw [Int.mul_fdiv_cancel_left _ g0, Int.mul_fdiv_cancel_left _ g0, Int.mul_fdiv_cancel_left _ g0]
  have gr := rcast_ne g0
  refine ⟨⟨?_, ?_, ?_, ?_⟩, g0⟩
  · by_cases h : g * s > 0
    · rw [if_pos h] at hg
      have g1 : 0 < g := by omega
      rcases Int.lt_or_le 0 s with k | k
      · exact k
      · have := Int.mul_nonpos_of_nonneg_of_nonpos (show 0 ≤ g by omega) k
        omega
    · rw [if_neg h] at hg
      have g1 : 0 < -g := by omega
      rcases Int.lt_or_le 0 s with k | k
      · exact k
      · have k2 := Int.mul_nonpos_of_nonneg_of_nonpos (show 0 ≤ -g by omega) k
        rw [Int.neg_mul] at k2
        omega
  · have m := gcd3_mul g p q s
    have a : gcdI (gcdI (g * p) (g * q)) (g * s) = (g.natAbs : Int) := by
      clear m gd d0 d1 d2 d3
      generalize gcdI (gcdI (g * p) (g * q)) (g * s) = G at *
      split at hg <;> omega
    rw [m] at a
    have n0 : (g.natAbs : Int) ≠ 0 := by omega
    exact Int.eq_of_mul_eq_mul_left n0 (by rw [a, Int.mul_one])
  · rw [rcast_mul, rcast_mul] at h1; grind
  · rw [rcast_mul, rcast_mul] at h2; grind
theorem rat_num (r : Rat) : (r.num : Rat) = r * ((r.den : Int) : Rat) := by
  have h : (r.num : Rat) / ((r.den : Int) : Rat) = r := by
    rw [← Rat.divInt_eq_div]; exact Rat.num_divInt_den r
  have hd : ((r.den : Int) : Rat) ≠ 0 := rcast_ne (by have := r.den_nz; omega)
  grind
theorem canon_ex {d : Int} (e : El d) : ∃ t : Int × Int × Int, Canon e t.1 t.2.1 t.2.2 := by
  have hS : ((e.a.den : Int) * (e.b.den : Int)) ≠ 0 := by
    have h1 := e.a.den_nz
    have h2 := e.b.den_nz
    exact Int.mul_ne_zero (by omega) (by omega)
  have h1 : ((e.a.num * (e.b.den : Int) : Int) : Rat) = e.a * ((e.a.den : Int) * (e.b.den : Int) : Int) := by
    rw [rcast_mul, rcast_mul, rat_num e.a]; grind
  have h2 : ((e.b.num * (e.a.den : Int) : Int) : Rat) = e.b * ((e.a.den : Int) * (e.b.den : Int) : Int) := by
    rw [rcast_mul, rcast_mul, rat_num e.b]; grind
  exact ⟨(_, _, _), (Canon.reduce hS h1 h2 rfl).1⟩
noncomputable def cn {d : Int} (e : El d) : Int × Int × Int := Classical.choose (canon_ex e)
theorem cn_ok {d : Int} (e : El d) : Canon e (cn e).1 (cn e).2.1 (cn e).2.2 := Classical.choose_spec (canon_ex e)
/-- the tuple of a number -/
noncomputable def nd {d : Int} (e : El d) : D := .tup [.int (cn e).1, .int (cn e).2.1, .int (cn e).2.2, .int (if (cn e).2.1 = 0 then 1 else d)]
theorem nd_of {d : Int} {e : El d} {p q s : Int} (h : Canon e p q s) : nd e = .tup [.int p, .int q, .int s, .int (if q = 0 then 1 else d)] := by
  obtain ⟨h1, h2, h3⟩ := (cn_ok e).uniq h
  unfold nd
  rw [h1, h2, h3]
theorem Canon.el {d : Int} {e : El d} {p q s : Int} (h : Canon e p q s) : e = ⟨(p : Rat) / s, (q : Rat) / s⟩ := by
  have hs := rcast_ne (i := s) (by have := h.pos; omega)
  have h1 := h.hp
  have h2 := h.hq
  ext
  · show e.a = (p : Rat) / s
    grind
  · show e.b = (q : Rat) / s
    grind
theorem cn_inj {d : Int} {e e' : El d} (h : cn e = cn e') : e = e' := by
  have h1 := (cn_ok e).el
  have h2 := (cn_ok e').el
  rw [h1, h2, h]
theorem nd_inj {d : Int} {e e' : El d} (h : nd e = nd e') : e = e' := by
  unfold nd at h
  injection h with h
  injection h with h1 h
  injection h with h2 h
  injection h with h3 h
  injection h1 with h1
  injection h2 with h2
  injection h3 with h3
  exact cn_inj (Prod.ext h1 (Prod.ext h2 h3))
/-- an integer -/
theorem canon_int {d : Int} (k : Int) : Canon (⟨(k : Rat), 0⟩ : El d) k 0 1 := by
  refine ⟨by decide, ?_, ?_, ?_⟩
  · unfold gcdI; simp
  · show (k : Rat) = (k : Rat) * ((1 : Int) : Rat)
    grind
  · show ((0 : Int) : Rat) = 0 * ((1 : Int) : Rat)
    grind
theorem nd_int {d : Int} (k : Int) : nd (⟨(k : Rat), 0⟩ : El d) = .tup [.int k, .int 0, .int 1, .int 1] := nd_of (canon_int k)
/-! ### sums and products before they are brought to lowest terms -/
theorem sum_raw {d : Int} {x y : El d} {p q s p' q' s' : Int} (h : Canon x p q s) (h' : Canon y p' q' s') :
    ((p * s' + p' * s : Int) : Rat) = (x + y).a * ((s * s' : Int) : Rat) ∧ ((q * s' + q' * s : Int) : Rat) = (x + y).b * ((s * s' : Int) : Rat) ∧ s * s' ≠ 0 := by
  have h1 := h.hp; have h2 := h.hq; have h3 := h'.hp; have h4 := h'.hq
  refine ⟨?_, ?_, ?_⟩
  · rw [El.add_def, Rat.intCast_add, rcast_mul, rcast_mul, rcast_mul]; grind
  · rw [El.add_def, Rat.intCast_add, rcast_mul, rcast_mul, rcast_mul]; grind
  · exact Int.mul_ne_zero (by have := h.pos; omega) (by have := h'.pos; omega)
theorem mul_raw {d : Int} {x y : El d} {p q s p' q' s' : Int} (h : Canon x p q s) (h' : Canon y p' q' s') :
    ((p * p' + q * q' * d : Int) : Rat) = (x * y).a * ((s * s' : Int) : Rat) ∧ ((p * q' + q * p' : Int) : Rat) = (x * y).b * ((s * s' : Int) : Rat) ∧ s * s' ≠ 0 := by
  have h1 := h.hp; have h2 := h.hq; have h3 := h'.hp; have h4 := h'.hq
  refine ⟨?_, ?_, ?_⟩
  · rw [El.mul_def, Rat.intCast_add, rcast_mul, rcast_mul, rcast_mul, rcast_mul]; grind
  · rw [El.mul_def, Rat.intCast_add, rcast_mul, rcast_mul, rcast_mul]; grind
  · exact Int.mul_ne_zero (by have := h.pos; omega) (by have := h'.pos; omega)
end DN

/-! DN3: polynomials: lists of coefficients, the constant first, up to zeros at the end. -/
namespace DN
section
variable {R : Type} [Lean.Grind.CommRing R]
/-- the i-th coefficient -/
def co : List R → Nat → R
  | [], _ => 0
  | a :: _, 0 => a
  | _ :: l, i + 1 => co l i
def padd : List R → List R → List R
  | [], m => m
  | l, [] => l
  | a :: l, b :: m => (a + b) :: padd l m
def psc (c : R) (l : List R) : List R := l.map (c * ·)
def pmul : List R → List R → List R
  | [], _ => []
  | a :: l, m => padd (psc a m) (0 :: pmul l m)
def Peq (l m : List R) : Prop := ∀ i, co l i = co m i
theorem co_nil (i : Nat) : co ([] : List R) i = 0 := by cases i <;> rfl
theorem co_padd : ∀ (l m : List R) (i : Nat), co (padd l m) i = co l i + co m i
  | [], m, i => by
    rw [co_nil]
    show co m i = 0 + co m i
    grind
  | a :: l, [], i => by
    rw [co_nil]
    show co (a :: l) i = co (a :: l) i + 0
    grind
  | a :: l, b :: m, 0 => rfl
  | a :: l, b :: m, i + 1 => co_padd l m i
theorem co_psc (c : R) : ∀ (l : List R) (i : Nat), co (psc c l) i = c * co l i
  | [], i => by
    show co [] i = c * co [] i
    rw [co_nil]; grind
  | a :: l, 0 => rfl
  | a :: l, i + 1 => co_psc c l i
/-- shifted -/
def sh (f : Nat → R) : Nat → R
  | 0 => 0
  | i + 1 => f i
theorem co_sh (l : List R) : ∀ i, co (0 :: l) i = sh (co l) i
  | 0 => rfl
  | i + 1 => rfl
theorem co_pmul_cons (a : R) (l m : List R) (i : Nat) : co (pmul (a :: l) m) i = a * co m i + sh (co (pmul l m)) i := by
  show co (padd (psc a m) (0 :: pmul l m)) i = _
  rw [co_padd, co_psc, co_sh]
theorem sh_add (f g : Nat → R) (i : Nat) : sh (fun j => f j + g j) i = sh f i + sh g i := by
  cases i
  · show (0 : R) = 0 + 0
    grind
  · rfl
theorem sh_mul (c : R) (f : Nat → R) (i : Nat) : sh (fun j => c * f j) i = c * sh f i := by
  cases i
  · show (0 : R) = c * 0
    grind
  · rfl
theorem sh_congr {f g : Nat → R} (h : ∀ i, f i = g i) (i : Nat) : sh f i = sh g i := by rw [show f = g from funext h]
theorem co_pmul_nil : ∀ (l : List R) (i : Nat), co (pmul l []) i = 0
  | [], i => co_nil i
  | a :: l, i => by
    rw [co_pmul_cons, co_nil, sh_congr (co_pmul_nil l)]
    cases i
    · show a * 0 + 0 = (0 : R)
      grind
    · show a * 0 + 0 = (0 : R)
      grind
theorem co_pmul_right (b : R) (m : List R) : ∀ (l : List R) (i : Nat), co (pmul l (b :: m)) i = b * co l i + sh (co (pmul l m)) i
  | [], i => by
    show co [] i = b * co [] i + sh (co []) i
    rw [co_nil, sh_congr (g := fun _ => 0) co_nil]
    cases i <;> (show (0 : R) = b * 0 + 0; grind)
  | a :: l, 0 => by
    rw [co_pmul_cons]
    show a * b + 0 = b * a + 0
    grind
  | a :: l, i + 1 => by
    rw [co_pmul_cons]
    show a * co m i + co (pmul l (b :: m)) i = b * co l i + co (pmul (a :: l) m) i
    rw [co_pmul_right b m l i, co_pmul_cons]
    grind
theorem pmul_comm : ∀ (l m : List R) (i : Nat), co (pmul l m) i = co (pmul m l) i
  | [], m, i => by
    rw [co_pmul_nil]
    exact co_nil i
  | a :: l, m, i => by
    rw [co_pmul_cons, co_pmul_right, sh_congr (pmul_comm l m)]
theorem pmul_congr {m m' : List R} (h : Peq m m') : ∀ (l : List R) (i : Nat), co (pmul l m) i = co (pmul l m') i
  | [], i => rfl
  | a :: l, i => by rw [co_pmul_cons, co_pmul_cons, h i, sh_congr (pmul_congr h l)]
theorem pmul_congr2 {l l' m m' : List R} (h : Peq l l') (h' : Peq m m') (i : Nat) : co (pmul l m) i = co (pmul l' m') i := by
  rw [pmul_congr h' l i, pmul_comm, pmul_congr h m' i, pmul_comm]
theorem pmul_add (m n : List R) : ∀ (l : List R) (i : Nat), co (pmul l (padd m n)) i = co (pmul l m) i + co (pmul l n) i
  | [], i => by
    show co [] i = co [] i + co [] i
    rw [co_nil]; grind
  | a :: l, i => by
    rw [co_pmul_cons, co_pmul_cons, co_pmul_cons, co_padd, sh_congr (pmul_add m n l), sh_add]
    grind
theorem pmul_sc (c : R) (n : List R) : ∀ (m : List R) (i : Nat), co (pmul (psc c m) n) i = c * co (pmul m n) i
  | [], i => by
    show co [] i = c * co [] i
    rw [co_nil]; grind
  | a :: m, i => by
    show co (pmul ((c * a) :: psc c m) n) i = _
    rw [co_pmul_cons, co_pmul_cons, sh_congr (pmul_sc c n m), sh_mul]
    grind
theorem pmul_shl (m n : List R) (i : Nat) : co (pmul (0 :: m) n) i = sh (co (pmul m n)) i := by
  rw [co_pmul_cons]; grind
theorem padd_mul (l m n : List R) (i : Nat) : co (pmul (padd l m) n) i = co (pmul l n) i + co (pmul m n) i := by
  rw [pmul_comm, pmul_add, pmul_comm n l, pmul_comm n m]
theorem pmul_assoc (m n : List R) : ∀ (l : List R) (i : Nat), co (pmul (pmul l m) n) i = co (pmul l (pmul m n)) i
  | [], i => rfl
  | a :: l, i => by
    show co (pmul (padd (psc a m) (0 :: pmul l m)) n) i = _
    rw [padd_mul, pmul_sc, pmul_shl, co_pmul_cons, sh_congr (pmul_assoc m n l)]
/-! ### the ring of polynomials -/
def nc (n : Nat) : R := (Lean.Grind.Semiring.natCast (α := R)).natCast n
def ic (n : Int) : R := (Lean.Grind.Ring.intCast (α := R)).intCast n
theorem Peq.refl (l : List R) : Peq l l := fun _ => rfl
theorem Peq.symm {l m : List R} (h : Peq l m) : Peq m l := fun i => (h i).symm
theorem Peq.trans {l m n : List R} (h : Peq l m) (h' : Peq m n) : Peq l n := fun i => (h i).trans (h' i)
variable (R) in
def pset : Setoid (List R) := ⟨Peq, Peq.refl, Peq.symm, Peq.trans⟩
variable (R) in
def Po : Type := Quotient (pset R)
/-- the polynomial of a list -/
def po (l : List R) : Po R := Quotient.mk (pset R) l
theorem po_eq {l m : List R} : po l = po m ↔ Peq l m := ⟨fun h => Quotient.exact h, fun h => Quotient.sound h⟩
namespace Po
def add : Po R → Po R → Po R := Quotient.lift₂ (fun l m => po (padd l m)) fun l m l' m' h h' => po_eq.mpr fun i => by rw [co_padd, co_padd, h i, h' i]
def mul : Po R → Po R → Po R := Quotient.lift₂ (fun l m => po (pmul l m)) fun l m l' m' h h' => po_eq.mpr (pmul_congr2 h h')
def sc (c : R) : Po R → Po R := Quotient.lift (fun l => po (psc c l)) fun l m h => po_eq.mpr fun i => by rw [co_psc, co_psc, h i]
def C (c : R) : Po R := po [c]
instance : Add (Po R) := ⟨add⟩
instance : Mul (Po R) := ⟨mul⟩
instance : Neg (Po R) := ⟨sc (-1)⟩
instance : Sub (Po R) := ⟨fun x y => x + -y⟩
instance : NatCast (Po R) := ⟨fun n => C (nc n)⟩
instance : IntCast (Po R) := ⟨fun n => C (ic n)⟩
instance (n : Nat) : OfNat (Po R) n := ⟨C (OfNat.ofNat n)⟩
def pow (x : Po R) : Nat → Po R
  | 0 => 1
  | n + 1 => pow x n * x
instance : HPow (Po R) Nat (Po R) := ⟨pow⟩
instance : SMul Nat (Po R) := ⟨fun n x => (n : Po R) * x⟩
instance : SMul Int (Po R) := ⟨fun n x => (n : Po R) * x⟩
theorem po_add (l m : List R) : po l + po m = po (padd l m) := rfl
theorem po_mul (l m : List R) : po l * po m = po (pmul l m) := rfl
theorem po_neg (l : List R) : -po l = po (psc (-1) l) := rfl
theorem co_C (c : R) (l : List R) (i : Nat) : co (pmul [c] l) i = c * co l i := by
  rw [co_pmul_cons]
  have z : sh (co (pmul ([] : List R) l)) i = 0 := by cases i <;> first | rfl | exact co_nil _
  rw [z]; grind
theorem co_zero : ∀ i : Nat, co ([OfNat.ofNat 0] : List R) i = 0
  | 0 => rfl
  | n + 1 => co_nil n
theorem ind {p : Po R → Prop} (h : ∀ l, p (po l)) (x : Po R) : p x := Quotient.inductionOn x h
instance : Lean.Grind.CommRing (Po R) where
  add_zero x := ind (p := fun x => x + 0 = x) (fun l => po_eq.mpr fun i => by
    rw [co_padd]
    rw [co_zero]; grind) x
  add_comm x y := ind (p := fun x => x + y = y + x) (fun l => ind (p := fun y => po l + y = y + po l) (fun m => po_eq.mpr fun i => by rw [co_padd, co_padd]; grind) y) x
  add_assoc x y z := ind (p := fun x => x + y + z = x + (y + z)) (fun l => ind (p := fun y => po l + y + z = po l + (y + z)) (fun m => ind (p := fun z => po l + po m + z = po l + (po m + z)) (fun n => po_eq.mpr fun i => by rw [co_padd, co_padd, co_padd, co_padd]; grind) z) y) x
  mul_assoc x y z := ind (p := fun x => x * y * z = x * (y * z)) (fun l => ind (p := fun y => po l * y * z = po l * (y * z)) (fun m => ind (p := fun z => po l * po m * z = po l * (po m * z)) (fun n => po_eq.mpr (pmul_assoc m n l)) z) y) x
  mul_one x := ind (p := fun x => x * 1 = x) (fun l => po_eq.mpr fun i => by rw [pmul_comm, co_C]; grind) x
  one_mul x := ind (p := fun x => 1 * x = x) (fun l => po_eq.mpr fun i => by rw [co_C]; grind) x
  left_distrib x y z := ind (p := fun x => x * (y + z) = x * y + x * z) (fun l => ind (p := fun y => po l * (y + z) = po l * y + po l * z) (fun m => ind (p := fun z => po l * (po m + z) = po l * po m + po l * z) (fun n => po_eq.mpr fun i => by rw [pmul_add, co_padd]) z) y) x
  right_distrib x y z := ind (p := fun x => (x + y) * z = x * z + y * z) (fun l => ind (p := fun y => (po l + y) * z = po l * z + y * z) (fun m => ind (p := fun z => (po l + po m) * z = po l * z + po m * z) (fun n => po_eq.mpr fun i => by rw [padd_mul, co_padd]) z) y) x
  zero_mul x := ind (p := fun x => 0 * x = 0) (fun l => po_eq.mpr fun i => by
    rw [co_C]
    show (OfNat.ofNat 0 : R) * co l i = co [OfNat.ofNat 0] i
    rw [co_zero]; grind) x
  mul_zero x := ind (p := fun x => x * 0 = 0) (fun l => po_eq.mpr fun i => by
    rw [pmul_comm, co_C]
    show (OfNat.ofNat 0 : R) * co l i = co [OfNat.ofNat 0] i
    rw [co_zero]; grind) x
  mul_comm x y := ind (p := fun x => x * y = y * x) (fun l => ind (p := fun y => po l * y = y * po l) (fun m => po_eq.mpr (pmul_comm l m)) y) x
  pow_zero x := rfl
  pow_succ x n := rfl
  ofNat_succ n := po_eq.mpr fun i => by
    rw [co_padd]
    cases i with
    | zero => exact Lean.Grind.Semiring.ofNat_succ n
    | succ j =>
      show co [] j = co [] j + co [] j
      rw [co_nil]; grind
  ofNat_eq_natCast n := po_eq.mpr fun i => by
    cases i
    · show (OfNat.ofNat n : R) = nc n
      exact Lean.Grind.Semiring.ofNat_eq_natCast n
    · rfl
  nsmul_eq_natCast_mul n x := rfl
  neg_add_cancel x := ind (p := fun x => -x + x = 0) (fun l => po_eq.mpr fun i => by
    rw [co_padd, co_psc]
    show -1 * co l i + co l i = co [OfNat.ofNat 0] i
    rw [co_zero]; grind) x
  sub_eq_add_neg x y := rfl
  neg_zsmul i x := ind (p := fun x => ((-i : Int) : Po R) * x = -(((i : Int) : Po R) * x)) (fun l => po_eq.mpr fun j => by
    have : (ic (-i) : R) = - ic i := Lean.Grind.Ring.intCast_neg i
    rw [co_C, co_psc, co_C, this]; grind) x
  zsmul_natCast_eq_nsmul n x := ind (p := fun x => (((n : Nat) : Int) : Po R) * x = ((n : Nat) : Po R) * x) (fun l => po_eq.mpr fun j => by
    rw [co_C, co_C]
    have : (ic ((n : Nat) : Int) : R) = nc n := Lean.Grind.Ring.intCast_natCast n
    rw [this]) x
  intCast_ofNat n := po_eq.mpr fun j => by
    cases j
    · show ic (OfNat.ofNat n : Int) = (OfNat.ofNat n : R)
      exact Lean.Grind.Ring.intCast_ofNat n
    · rfl
  intCast_neg i := po_eq.mpr fun j => by
    rw [co_psc]
    cases j
    · show ic (-i) = -1 * (ic i : R)
      have : (ic (-i) : R) = - ic i := Lean.Grind.Ring.intCast_neg i
      rw [this]; grind
    · rename_i j
      show co [] j = -1 * co [] j
      rw [co_nil]; grind
end Po
end
example {R : Type} [Lean.Grind.CommRing R] (x y z : Po R) : (x + y) * z = z * x + y * z := by grind
end DN

/-! DN4: values of polynomials, one polynomial put into another. -/
namespace DN
section
variable {R : Type} [Lean.Grind.CommRing R]
theorem po_cons (a : R) (l : List R) : po (a :: l) = Po.C a + po [0, 1] * po l := po_eq.mpr fun i => by
  rw [co_padd]
  have h : co (pmul ([0, 1] : List R) l) i = sh (co l) i := by
    rw [co_pmul_cons, sh_congr (fun i => Po.co_C 1 l i)]
    cases i with
    | zero => show (0 : R) * co l 0 + 0 = 0; grind
    | succ j => show (0 : R) * co l (j + 1) + 1 * co l j = co l j; grind
  show co (a :: l) i = co [a] i + co (pmul ([0, 1] : List R) l) i
  rw [h]
  cases i with
  | zero => show a = a + 0; grind
  | succ j => show co l j = co [] j + co l j; rw [co_nil]; grind
theorem po_nil : po ([] : List R) = 0 := po_eq.mpr fun i => by
  show co [] i = co [OfNat.ofNat 0] i
  rw [co_nil, Po.co_zero]
/-- a map that respects sums, products, constants is told by what it makes of the unknown -/
structure Hom (S : Type) [Lean.Grind.CommRing S] (f : Po R → S) (c : R → S) : Prop where
  add : ∀ x y, f (x + y) = f x + f y
  mul : ∀ x y, f (x * y) = f x * f y
  con : ∀ a, f (Po.C a) = c a
/-- l put at x (constants by c) -/
def at_ {S : Type} [Lean.Grind.CommRing S] (c : R → S) (x : S) : List R → S
  | [] => 0
  | a :: l => c a + x * at_ c x l
/-- constants respect sums and products -/
structure RH (S : Type) [Lean.Grind.CommRing S] (c : R → S) : Prop where
  zero : c 0 = 0
  one : c 1 = 1
  add : ∀ a b, c (a + b) = c a + c b
  mul : ∀ a b, c (a * b) = c a * c b
section
variable {S : Type} [Lean.Grind.CommRing S] {c : R → S} (h : RH S c) (x : S)
include h
theorem at_padd : ∀ l m : List R, at_ c x (padd l m) = at_ c x l + at_ c x m
  | [], m => by show at_ c x m = 0 + at_ c x m; grind
  | a :: l, [] => by show at_ c x (a :: l) = at_ c x (a :: l) + 0; grind
  | a :: l, b :: m => by
    show c (a + b) + x * at_ c x (padd l m) = (c a + x * at_ c x l) + (c b + x * at_ c x m)
    rw [h.add, at_padd l m]; grind
theorem at_psc (k : R) : ∀ l : List R, at_ c x (psc k l) = c k * at_ c x l
  | [] => by show (0 : S) = c k * 0; grind
  | a :: l => by
    show c (k * a) + x * at_ c x (psc k l) = c k * (c a + x * at_ c x l)
    rw [h.mul, at_psc k l]; grind
theorem at_pmul (m : List R) : ∀ l : List R, at_ c x (pmul l m) = at_ c x l * at_ c x m
  | [] => by show (0 : S) = 0 * _; grind
  | a :: l => by
    show at_ c x (padd (psc a m) (0 :: pmul l m)) = (c a + x * at_ c x l) * at_ c x m
    rw [at_padd h x, at_psc h x]
    show c a * at_ c x m + (c 0 + x * at_ c x (pmul l m)) = _
    rw [at_pmul m l, h.zero]; grind
theorem at_zeros : ∀ l : List R, (∀ i, co l i = 0) → at_ c x l = 0
  | [], _ => rfl
  | a :: l, z => by
    show c a + x * at_ c x l = 0
    rw [show a = 0 from z 0, h.zero, at_zeros l fun i => z (i + 1)]; grind
theorem at_peq : ∀ l m : List R, Peq l m → at_ c x l = at_ c x m
  | [], m, e => (at_zeros h x m fun i => by rw [← e i, co_nil]).symm
  | a :: l, [], e => at_zeros h x (a :: l) fun i => by rw [e i, co_nil]
  | a :: l, b :: m, e => by
    show c a + x * at_ c x l = c b + x * at_ c x m
    rw [show a = b from e 0, at_peq l m fun i => e (i + 1)]
end
end
end DN

/-! DN5: lists without zeros at the end. -/
namespace DN
section
variable {R : Type} [Lean.Grind.CommRing R]
/-- no zero at the end -/
def Trim (l : List R) : Prop := l = [] ∨ co l (l.length - 1) ≠ 0
theorem co_over : ∀ (l : List R) (i : Nat), l.length ≤ i → co l i = 0
  | [], i, _ => co_nil i
  | a :: l, 0, h => by simp at h
  | a :: l, i + 1, h => co_over l i (by simpa using h)
theorem co_ext : ∀ l m : List R, l.length = m.length → (∀ i, co l i = co m i) → l = m
  | [], [], _, _ => rfl
  | [], b :: m, h, _ => by simp at h
  | a :: l, [], h, _ => by simp at h
  | a :: l, b :: m, h, e => by
    rw [show a = b from e 0, co_ext l m (by simpa using h) fun i => e (i + 1)]
theorem Trim.len {l m : List R} (h : Trim l) (e : Peq l m) : l.length ≤ m.length := by
  rcases h with rfl | h
  · exact Nat.zero_le _
  · rcases Nat.lt_or_ge m.length l.length with k | k
    · exact absurd ((e _).trans (co_over m _ (by omega))) h
    · exact k
/-- one list and no other -/
theorem Trim.uniq {l m : List R} (h : Trim l) (h' : Trim m) (e : Peq l m) : l = m :=
  co_ext l m (Nat.le_antisymm (h.len e) (h'.len e.symm)) e
theorem Trim.po {l m : List R} (h : Trim l) (h' : Trim m) (e : DN.po l = DN.po m) : l = m := h.uniq h' (po_eq.mp e)
variable [DecidableEq R]
/-- zeros at the end cut off -/
def cut : List R → List R
  | [] => []
  | a :: l => match cut l with
    | [] => if a = 0 then [] else [a]
    | b :: m => a :: b :: m
theorem co_cut : ∀ (l : List R) (i : Nat), co (cut l) i = co l i
  | [], _ => rfl
  | a :: l, i => by
    have ih := co_cut l
    show co (match cut l with | [] => if a = 0 then [] else [a] | b :: m => a :: b :: m) i = _
    cases e : cut l with
    | nil =>
      rw [e] at ih
      dsimp only
      split
      · rename_i h0
        rw [co_nil]
        cases i with
        | zero => exact h0.symm
        | succ j => show (0 : R) = co l j; rw [← ih j, co_nil]
      · cases i with
        | zero => rfl
        | succ j => show co [] j = co l j; exact ih j
    | cons b m =>
      rw [e] at ih
      dsimp only
      cases i with
      | zero => rfl
      | succ j => exact ih j
theorem cut_trim : ∀ l : List R, Trim (cut l)
  | [] => .inl rfl
  | a :: l => by
    have ih := cut_trim l
    show Trim (match cut l with | [] => if a = 0 then [] else [a] | b :: m => a :: b :: m)
    cases e : cut l with
    | nil =>
      dsimp only
      split
      · exact .inl rfl
      · rename_i h0
        exact .inr h0
    | cons b m =>
      rw [e] at ih
      rcases ih with ih | ih
      · cases ih
      · exact .inr ih
theorem po_cut (l : List R) : po (cut l) = po l := po_eq.mpr (co_cut l)
theorem cut_eq {l m : List R} (e : po l = po m) : cut l = cut m := (cut_trim l).po (cut_trim m) (by rw [po_cut, po_cut, e])
theorem cut_of {l : List R} (h : Trim l) : cut l = l := (cut_trim l).po h (po_cut l)
end
end DN

/-! DN6: sizes. -/
namespace DN
open DL
theorem divOk_b {a b : Int} (h0 : b ≠ 0) (h : b.natAbs < 2 ^ 9000) : DivOk a b :=
  ⟨h0, PyProof.noPylong_of_log2 ((Nat.log2_lt (by omega)).mpr h)⟩
/-- S times the number is integral, its parts together (the root's weighed by d) at most B -/
structure Sz {d : Int} (e : El d) (S B : Nat) : Prop where
  pos : 0 < S
  ex : ∃ P Q : Int, (P : Rat) = e.a * ((S : Int) : Rat) ∧ (Q : Rat) = e.b * ((S : Int) : Rat) ∧ P.natAbs + Q.natAbs * d.natAbs ≤ B
section
variable {d : Int} {x y : El d} {S T B C : Nat}
theorem Sz.mono (h : Sz x S B) (hb : B ≤ C) : Sz x S C := by
  obtain ⟨P, Q, h1, h2, h3⟩ := h.ex
  exact ⟨h.pos, P, Q, h1, h2, Nat.le_trans h3 hb⟩
theorem Sz.add (h : Sz x S B) (h' : Sz y S C) : Sz (x + y) S (B + C) := by
  obtain ⟨P, Q, h1, h2, h3⟩ := h.ex
  obtain ⟨P', Q', k1, k2, k3⟩ := h'.ex
  refine ⟨h.pos, P + P', Q + Q', ?_, ?_, ?_⟩
  · rw [El.add_def, Rat.intCast_add, h1, k1]; grind
  · rw [El.add_def, Rat.intCast_add, h2, k2]; grind
  · have a1 : (P + P').natAbs ≤ P.natAbs + P'.natAbs := Int.natAbs_add_le ..
    have a2 : (Q + Q').natAbs ≤ Q.natAbs + Q'.natAbs := Int.natAbs_add_le ..
    have a3 := Nat.mul_le_mul_right d.natAbs a2
    rw [Nat.add_mul] at a3
    omega
theorem Sz.mul (h : Sz x S B) (h' : Sz y T C) : Sz (x * y) (S * T) (B * C) := by
  obtain ⟨P, Q, h1, h2, h3⟩ := h.ex
  obtain ⟨P', Q', k1, k2, k3⟩ := h'.ex
  refine ⟨Nat.mul_pos h.pos h'.pos, P * P' + Q * Q' * d, P * Q' + Q * P', ?_, ?_, ?_⟩
  · rw [El.mul_def, Rat.intCast_add, rcast_mul, rcast_mul, rcast_mul, h1, h2, k1, k2, Int.natCast_mul, rcast_mul]; grind
  · rw [El.mul_def, Rat.intCast_add, rcast_mul, rcast_mul, h1, h2, k1, k2, Int.natCast_mul, rcast_mul]; grind
  · have a1 : (P * P' + Q * Q' * d).natAbs ≤ P.natAbs * P'.natAbs + Q.natAbs * Q'.natAbs * d.natAbs := by
      refine Nat.le_trans (Int.natAbs_add_le ..) ?_
      rw [Int.natAbs_mul, Int.natAbs_mul, Int.natAbs_mul]; exact Nat.le_refl _
    have a2 : (P * Q' + Q * P').natAbs ≤ P.natAbs * Q'.natAbs + Q.natAbs * P'.natAbs := by
      refine Nat.le_trans (Int.natAbs_add_le ..) ?_
      rw [Int.natAbs_mul, Int.natAbs_mul]; exact Nat.le_refl _
    have a3 := Nat.mul_le_mul_right d.natAbs a2
    have a4 := Nat.mul_le_mul h3 k3
    refine Nat.le_trans (Nat.add_le_add a1 a3) (Nat.le_trans ?_ a4)
    by_cases hd : d.natAbs = 0
    · rw [hd]; simp
    · have hd1 : 1 ≤ d.natAbs := by omega
      have b1 : Q.natAbs * Q'.natAbs * d.natAbs ≤ Q.natAbs * d.natAbs * (Q'.natAbs * d.natAbs) := by
        have : Q.natAbs * d.natAbs * (Q'.natAbs * d.natAbs) = Q.natAbs * Q'.natAbs * d.natAbs * d.natAbs := by grind
        rw [this]
        exact Nat.le_mul_of_pos_right _ hd1
      have b2 : (P.natAbs + Q.natAbs * d.natAbs) * (P'.natAbs + Q'.natAbs * d.natAbs) = P.natAbs * P'.natAbs + Q.natAbs * d.natAbs * (Q'.natAbs * d.natAbs) + (P.natAbs * Q'.natAbs + Q.natAbs * P'.natAbs) * d.natAbs := by grind
      omega
/-- so are the parts of its tuple -/
theorem Sz.canon (h : Sz x S B) (hd : d ≠ 0) {p q s : Int} (c : Canon x p q s) : s.natAbs ≤ S ∧ p.natAbs ≤ B ∧ q.natAbs ≤ B := by
  obtain ⟨P, Q, h1, h2, h3⟩ := h.ex
  have hS : ((S : Nat) : Int) ≠ 0 := by have := h.pos; omega
  have e1 : p * (S : Int) = P * s := rcast_inj (by rw [rcast_mul, rcast_mul, c.hp, h1]; grind)
  have e2 : q * (S : Int) = Q * s := rcast_inj (by rw [rcast_mul, rcast_mul, c.hq, h2]; grind)
  have k := dvd_gcd3 (t := s) (p := p * S) (q := q * S) (s := s * S) (by rw [e1]; exact Int.dvd_mul_left ..) (by rw [e2]; exact Int.dvd_mul_left ..) (Int.dvd_mul_right ..)
  rw [gcdI_assoc_mul (by omega), c.low, Int.one_mul] at k
  obtain ⟨m, hm⟩ := k
  have s0 := c.pos
  have p1 : P = p * m := Int.eq_of_mul_eq_mul_right (show s ≠ 0 by omega) (by rw [← e1, hm]; grind)
  have q1 : Q = q * m := Int.eq_of_mul_eq_mul_right (show s ≠ 0 by omega) (by rw [← e2, hm]; grind)
  have m0 : 1 ≤ m.natAbs := by
    rcases Nat.eq_zero_or_pos m.natAbs with z | z
    · have : m = 0 := by omega
      rw [this, Int.mul_zero] at hm
      exact absurd hm hS
    · exact z
  have d1 : 1 ≤ d.natAbs := by omega
  have c1 : p.natAbs ≤ P.natAbs := by rw [p1, Int.natAbs_mul]; exact Nat.le_mul_of_pos_right _ m0
  have c2 : q.natAbs ≤ Q.natAbs := by rw [q1, Int.natAbs_mul]; exact Nat.le_mul_of_pos_right _ m0
  have c3 : Q.natAbs ≤ Q.natAbs * d.natAbs := Nat.le_mul_of_pos_right _ d1
  have c4 : s.natAbs ≤ S := by
    have : S = s.natAbs * m.natAbs := by
      have := congrArg Int.natAbs hm
      rw [Int.natAbs_mul] at this
      simpa using this
    rw [this]
    exact Nat.le_mul_of_pos_right _ m0
  exact ⟨c4, by omega, by omega⟩
end
end DN

/-! DN7: the unknown, putting one polynomial into another, a list changed at one place, padded sums. -/
namespace DN
section
variable {R : Type} [Lean.Grind.CommRing R]
/-- the unknown -/
def PX : Po R := po [0, 1]
theorem C_add (a b : R) : Po.C (a + b) = Po.C a + Po.C b := rfl
theorem C_zero : Po.C (0 : R) = 0 := rfl
theorem C_one : Po.C (1 : R) = 1 := rfl
theorem C_mul (a b : R) : Po.C (a * b) = Po.C a * Po.C b := po_eq.mpr fun i => by
  rw [Po.co_C]
  cases i with
  | zero => rfl
  | succ j => show co [] j = a * co [] j; rw [co_nil]; grind
variable (R) in
theorem RHC : RH (Po R) (Po.C (R := R)) := ⟨C_zero, C_one, C_add, C_mul⟩
variable (R) in
theorem RHid : RH R (id : R → R) := ⟨rfl, rfl, fun _ _ => rfl, fun _ _ => rfl⟩
theorem po_at : ∀ l : List R, po l = at_ Po.C PX l
  | [] => po_nil
  | a :: l => by rw [po_cons, po_at l]; rfl
/-- y put for the unknown -/
def Sub (y : Po R) : Po R → Po R := Quotient.lift (at_ Po.C y) fun l m h => at_peq (RHC R) y l m h
theorem Sub_po (y : Po R) (l : List R) : Sub y (po l) = at_ Po.C y l := rfl
theorem Sub_add (y a b : Po R) : Sub y (a + b) = Sub y a + Sub y b :=
  Po.ind (p := fun a => Sub y (a + b) = Sub y a + Sub y b) (fun l => Po.ind (p := fun b => Sub y (po l + b) = Sub y (po l) + Sub y b) (fun m => at_padd (RHC R) y l m) b) a
theorem Sub_mul (y a b : Po R) : Sub y (a * b) = Sub y a * Sub y b :=
  Po.ind (p := fun a => Sub y (a * b) = Sub y a * Sub y b) (fun l => Po.ind (p := fun b => Sub y (po l * b) = Sub y (po l) * Sub y b) (fun m => at_pmul (RHC R) y m l) b) a
theorem Sub_C (y : Po R) (a : R) : Sub y (Po.C a) = Po.C a := by
  show Po.C a + y * 0 = Po.C a
  grind
theorem Sub_zero (y : Po R) : Sub y 0 = 0 := Sub_C y 0
theorem Sub_X (y : Po R) : Sub y PX = y := by
  show Po.C 0 + y * (Po.C 1 + y * 0) = y
  rw [C_zero, C_one]; grind
theorem Sub_at (y z : Po R) : ∀ l : List R, Sub y (at_ Po.C z l) = at_ Po.C (Sub y z) l
  | [] => Sub_zero y
  | a :: l => by
    show Sub y (Po.C a + z * at_ Po.C z l) = Po.C a + Sub y z * at_ Po.C (Sub y z) l
    rw [Sub_add, Sub_mul, Sub_C, Sub_at y z l]
/-- the value of a polynomial -/
abbrev ev (x : R) (l : List R) : R := at_ id x l
def Ev (x : R) : Po R → R := Quotient.lift (at_ id x) fun l m h => at_peq (RHid R) x l m h
theorem Ev_po (x : R) (l : List R) : Ev x (po l) = ev x l := rfl
theorem Ev_add (y : R) (a b : Po R) : Ev y (a + b) = Ev y a + Ev y b :=
  Po.ind (p := fun a => Ev y (a + b) = Ev y a + Ev y b) (fun l => Po.ind (p := fun b => Ev y (po l + b) = Ev y (po l) + Ev y b) (fun m => at_padd (RHid R) y l m) b) a
theorem Ev_mul (y : R) (a b : Po R) : Ev y (a * b) = Ev y a * Ev y b :=
  Po.ind (p := fun a => Ev y (a * b) = Ev y a * Ev y b) (fun l => Po.ind (p := fun b => Ev y (po l * b) = Ev y (po l) * Ev y b) (fun m => at_pmul (RHid R) y m l) b) a
theorem Ev_C (y a : R) : Ev y (Po.C a) = a := by
  show a + y * 0 = a
  grind
theorem Ev_zero (y : R) : Ev y 0 = 0 := Ev_C y 0
theorem Ev_X (y : R) : Ev y PX = y := by
  show (0 : R) + y * (1 + y * 0) = y
  grind
theorem Ev_at (y : R) (z : Po R) : ∀ l : List R, Ev y (at_ Po.C z l) = ev (Ev y z) l
  | [] => Ev_zero y
  | a :: l => by
    show Ev y (Po.C a + z * at_ Po.C z l) = a + Ev y z * ev (Ev y z) l
    rw [Ev_add, Ev_mul, Ev_C, Ev_at y z l]
/-! ### one place -/
theorem po_tl (l : List R) : po (0 :: l) = PX * po l := by
  rw [po_cons, C_zero]
  show 0 + PX * po l = PX * po l
  grind
theorem po_set (c : R) : ∀ (f : List R) (k : Nat) (a : R), f[k]? = some a → po (f.set k (a + c)) = po f + Po.C c * PX ^ k
  | [], k, a, h => by cases h
  | b :: f, 0, a, h => by
    rw [List.getElem?_cons_zero] at h
    cases h
    rw [List.set_cons_zero, po_cons, po_cons b f, C_add]
    have : (PX : Po R) ^ 0 = 1 := rfl
    rw [this]; grind
  | b :: f, k + 1, a, h => by
    rw [List.getElem?_cons_succ] at h
    rw [List.set_cons_succ, po_cons, po_cons b f, po_set c f k a h]
    have : (PX : Po R) ^ (k + 1) = PX ^ k * PX := rfl
    rw [this, show (po [0, 1] : Po R) = PX from rfl]; grind
theorem po_snoc (a : R) : ∀ l : List R, po (l ++ [a]) = po l + Po.C a * PX ^ l.length
  | [] => by
    have : (PX : Po R) ^ 0 = 1 := rfl
    show Po.C a = po [] + Po.C a * PX ^ 0
    rw [po_nil, this]; grind
  | b :: l => by
    rw [List.cons_append, po_cons, po_cons b l, po_snoc a l, List.length_cons]
    have : (PX : Po R) ^ (l.length + 1) = PX ^ l.length * PX := rfl
    rw [this, show (po [0, 1] : Po R) = PX from rfl]; grind
theorem po_zeros : ∀ n : Nat, po (List.replicate n (0 : R)) = 0
  | 0 => po_nil
  | n + 1 => by rw [List.replicate_succ, po_tl, po_zeros n]; grind
/-! ### padded sums -/
theorem zw_zero : ∀ m : List R, List.zipWith (· + ·) (List.replicate m.length 0) m = m
  | [] => rfl
  | b :: m => by
    rw [List.length_cons, List.replicate_succ, List.zipWith_cons_cons, zw_zero m, show (0 : R) + b = b by grind]
theorem zw_zero' : ∀ m : List R, List.zipWith (· + ·) m (List.replicate m.length 0) = m
  | [] => rfl
  | b :: m => by
    rw [List.length_cons, List.replicate_succ, List.zipWith_cons_cons, zw_zero' m, show b + 0 = b by grind]
theorem pad_zip : ∀ (l m : List R) (n : Nat), n = max l.length m.length → List.zipWith (· + ·) (l ++ List.replicate (n - l.length) 0) (m ++ List.replicate (n - m.length) 0) = padd l m
  | [], m, n, h => by
    have : n = m.length := by simp at h; omega
    subst this
    rw [List.nil_append, List.length_nil, Nat.sub_zero, Nat.sub_self, List.replicate_zero, List.append_nil, zw_zero]; cases m <;> rfl
  | a :: l, [], n, h => by
    have : n = (a :: l).length := by simp at h; simpa using h
    subst this
    rw [List.nil_append, List.length_nil, Nat.sub_zero, Nat.sub_self, List.replicate_zero, List.append_nil, zw_zero']; rfl
  | a :: l, b :: m, n, h => by
    rw [List.length_cons, List.length_cons] at h
    cases n with
    | zero => omega
    | succ n =>
      rw [List.length_cons, List.length_cons, List.cons_append, List.cons_append, List.zipWith_cons_cons, Nat.add_sub_add_right, Nat.add_sub_add_right, pad_zip l m n (by omega)]; rfl
theorem padd_len : ∀ l m : List R, (padd l m).length = max l.length m.length
  | [], m => by simp [padd]
  | a :: l, [] => by simp [padd]
  | a :: l, b :: m => by simp only [padd, List.length_cons, padd_len l m]; omega
theorem psc_len (c : R) (l : List R) : (psc c l).length = l.length := List.length_map ..
theorem pmul_len : ∀ l m : List R, (pmul l m).length ≤ l.length + m.length
  | [], m => Nat.zero_le _
  | a :: l, m => by
    show (padd (psc a m) (0 :: pmul l m)).length ≤ _
    have := pmul_len l m
    rw [padd_len, psc_len, List.length_cons, List.length_cons]; omega
variable [DecidableEq R]
theorem cut_len : ∀ l : List R, (cut l).length ≤ l.length
  | [] => Nat.le_refl _
  | a :: l => by
    have ih := cut_len l
    show (match cut l with | [] => if a = 0 then [] else [a] | b :: m => a :: b :: m).length ≤ _
    cases e : cut l with
    | nil => dsimp only; split <;> simp
    | cons b m => rw [e] at ih; dsimp only; simp only [List.length_cons] at ih ⊢; omega
theorem cut_mem : ∀ (l : List R) (a : R), a ∈ cut l → a ∈ l
  | [], a, h => h
  | b :: l, a, h => by
    have ih := cut_mem l
    have h' : a ∈ (match cut l with | [] => if b = 0 then [] else [b] | c :: m => b :: c :: m) := h
    cases e : cut l with
    | nil =>
      rw [e] at h'
      dsimp only at h'
      split at h'
      · cases h'
      · rw [List.mem_singleton] at h'; rw [h']; exact List.mem_cons_self ..
    | cons c m =>
      rw [e] at h' ih
      dsimp only at h'
      rcases List.mem_cons.mp h' with h1 | h1
      · rw [h1]; exact List.mem_cons_self ..
      · exact List.mem_cons_of_mem _ (ih a h1)
/-- up to zeros at the end, the product has this many coefficients -/
theorem cut_le {l : List R} {n : Nat} (h : ∀ i, n ≤ i → co l i = 0) : (cut l).length ≤ n := by
  rcases cut_trim l with e | e
  · rw [e]; exact Nat.zero_le _
  · rcases Nat.lt_or_ge n (cut l).length with k | k
    · exact absurd ((co_cut l _).trans (h _ (by omega))) e
    · exact k
theorem co_pmul_over : ∀ (l m : List R) (i : Nat), l.length + m.length - 1 ≤ i → co (pmul l m) i = 0
  | [], m, i, _ => co_nil i
  | [a], m, i, h => by
    rw [Po.co_C, co_over m i (by simp at h; omega)]; grind
  | a :: b :: l, m, i, h => by
    rw [co_pmul_cons]
    simp only [List.length_cons] at h
    cases i with
    | zero => omega
    | succ j =>
      show a * co m (j + 1) + co (pmul (b :: l) m) j = 0
      rw [co_pmul_over (b :: l) m j (by simp only [List.length_cons]; omega), co_over m (j + 1) (by omega)]; grind
theorem cut_pmul_len (l m : List R) : (cut (pmul l m)).length ≤ l.length + m.length - 1 := cut_le (co_pmul_over l m)
end
end DN

/-! DN8: sizes of polynomials: a common denominator S, tops at most B. -/
namespace DN
open DL
instance elDec (d : Int) : DecidableEq (El d) := fun a b => decidable_of_iff (a.a = b.a ∧ a.b = b.b) ⟨fun ⟨h1, h2⟩ => by cases a; cases b; cases h1; cases h2; rfl, fun h => by cases h; exact ⟨rfl, rfl⟩⟩
section
variable {d : Int} {x y : El d} {S T B C : Nat}
theorem Sz.zero (h : 0 < S) : Sz (0 : El d) S B := ⟨h, 0, 0, by show ((0 : Int) : Rat) = 0 * _; grind, by show ((0 : Int) : Rat) = 0 * _; grind, by simp⟩
theorem Sz.int (k : Int) (h : k.natAbs ≤ B) : Sz (⟨(k : Rat), 0⟩ : El d) 1 B := ⟨by decide, k, 0, by show (k : Rat) = (k : Rat) * ((1 : Int) : Rat); grind, by show ((0 : Int) : Rat) = 0 * _; grind, by simpa using h⟩
theorem Sz.scale (h : Sz x S B) (hT : 0 < T) : Sz x (S * T) (B * T) := by
  obtain ⟨P, Q, h1, h2, h3⟩ := h.ex
  refine ⟨Nat.mul_pos h.pos hT, P * T, Q * T, ?_, ?_, ?_⟩
  · rw [Int.natCast_mul, rcast_mul, rcast_mul, h1]; grind
  · rw [Int.natCast_mul, rcast_mul, rcast_mul, h2]; grind
  · rw [Int.natAbs_mul, Int.natAbs_mul, Int.natAbs_natCast]
    have := Nat.mul_le_mul_right T h3
    have e : (P.natAbs + Q.natAbs * d.natAbs) * T = P.natAbs * T + Q.natAbs * T * d.natAbs := by grind
    omega
theorem Sz.neg (h : Sz x S B) : Sz (-x) S B := by
  obtain ⟨P, Q, h1, h2, h3⟩ := h.ex
  refine ⟨h.pos, -P, -Q, ?_, ?_, by simpa using h3⟩
  · rw [El.neg_def, Rat.intCast_neg, h1]; grind
  · rw [El.neg_def, Rat.intCast_neg, h2]; grind
structure Ps (l : List (El d)) (S B : Nat) : Prop where
  pos : 0 < S
  all : ∀ e ∈ l, Sz e S B
variable {l m : List (El d)}
theorem Ps.nil (h : 0 < S) : Ps ([] : List (El d)) S B := ⟨h, fun _ h => by cases h⟩
theorem Ps.cons (h : Sz x S B) (hl : Ps l S B) : Ps (x :: l) S B := ⟨h.pos, fun e he => by
  rcases List.mem_cons.mp he with rfl | he
  · exact h
  · exact hl.all e he⟩
theorem Ps.head (h : Ps (x :: l) S B) : Sz x S B := h.all _ (List.mem_cons_self ..)
theorem Ps.tail (h : Ps (x :: l) S B) : Ps l S B := ⟨h.pos, fun e he => h.all e (List.mem_cons_of_mem _ he)⟩
theorem Ps.mono (h : Ps l S B) (hb : B ≤ C) : Ps l S C := ⟨h.pos, fun e he => (h.all e he).mono hb⟩
theorem Ps.scale (h : Ps l S B) (hT : 0 < T) : Ps l (S * T) (B * T) := ⟨Nat.mul_pos h.pos hT, fun e he => (h.all e he).scale hT⟩
theorem Ps.padd : ∀ {l m : List (El d)}, Ps l S B → Ps m S C → Ps (padd l m) S (B + C)
  | [], m, h, h' => h'.mono (by omega)
  | a :: l, [], h, h' => h.mono (by omega)
  | a :: l, b :: m, h, h' => .cons (h.head.add h'.head) (Ps.padd h.tail h'.tail)
theorem Ps.psc (hx : Sz x S B) (h : Ps l T C) : Ps (psc x l) (S * T) (B * C) := ⟨Nat.mul_pos hx.pos h.pos, fun e he => by
  obtain ⟨a, ha, rfl⟩ := List.mem_map.mp he
  exact hx.mul (h.all a ha)⟩
theorem Ps.pmul (hm : Ps m T C) : ∀ {l : List (El d)}, Ps l S B → Ps (pmul l m) (S * T) (l.length * (B * C))
  | [], h => .nil (Nat.mul_pos h.pos hm.pos)
  | a :: l, h => by
    have h1 := Ps.psc h.head hm
    have h2 := Ps.pmul hm h.tail
    have h3 := h1.padd (Ps.cons (Sz.zero h1.pos) h2)
    refine h3.mono ?_
    rw [List.length_cons, Nat.add_mul]; omega
theorem Ps.cut (h : Ps l S B) : Ps (cut l) S B := ⟨h.pos, fun e he => h.all e (cut_mem l e he)⟩
/-- the value, by Horner -/
theorem Ps.ev (hx : Sz x T C) (hT : T ≤ C) : ∀ {l : List (El d)} (n : Nat), l.length ≤ n → Ps l S B → Sz (ev x l) (S * T ^ n) (n * (B * C ^ n))
  | [], n, _, h => Sz.zero (Nat.mul_pos h.pos (Nat.pow_pos hx.pos))
  | a :: l, n, hn, h => by
    cases n with
    | zero => simp at hn
    | succ n =>
      have h1 := Ps.ev hx hT n (by simpa using hn) h.tail
      have h2 := hx.mul h1
      have h3 := h.head.scale (T := T ^ (n + 1)) (Nat.pow_pos hx.pos)
      have e : T * (S * T ^ n) = S * T ^ (n + 1) := by rw [Nat.pow_succ]; grind
      rw [e] at h2
      have h4 := h3.add h2
      refine h4.mono ?_
      have e1 : B * T ^ (n + 1) ≤ B * C ^ (n + 1) := Nat.mul_le_mul_left _ (Nat.pow_le_pow_left hT _)
      have e2 : C * (n * (B * C ^ n)) = n * (B * C ^ (n + 1)) := by rw [Nat.pow_succ]; grind
      have e3 : (n + 1) * (B * C ^ (n + 1)) = n * (B * C ^ (n + 1)) + B * C ^ (n + 1) := by rw [Nat.add_mul, Nat.one_mul]
      omega
end
/-- a polynomial as it is handed on -/
structure Pg {d : Int} (l : List (El d)) (n S B : Nat) : Prop where
  trim : Trim l
  len : l.length ≤ n
  sz : Ps l S B
section
variable {d : Int} {S T B C n k : Nat} {l m : List (El d)}
theorem Pg.cut (h : Ps l S B) (hl : (cut l).length ≤ n) : Pg (cut l) n S B := ⟨cut_trim l, hl, h.cut⟩
theorem Pg.nil (h : 0 < S) : Pg ([] : List (El d)) n S B := ⟨.inl rfl, Nat.zero_le _, .nil h⟩
theorem Pg.mono (h : Pg l n S B) (hn : n ≤ k) (hb : B ≤ C) : Pg l k S C := ⟨h.trim, Nat.le_trans h.len hn, h.sz.mono hb⟩
theorem Pg.add (h : Pg l n S B) (h' : Pg m k S C) : Pg (DN.cut (padd l m)) (max n k) S (B + C) := Pg.cut (h.sz.padd h'.sz) (Nat.le_trans (cut_len _) (by rw [padd_len]; have := h.len; have := h'.len; omega))
theorem Pg.mul (h : Pg l n S B) (h' : Pg m k T C) : Pg (DN.cut (pmul l m)) (n + k - 1) (S * T) (n * (B * C)) := Pg.cut ((Ps.pmul h'.sz h.sz).mono (Nat.mul_le_mul_right _ h.len)) (Nat.le_trans (cut_pmul_len l m) (by have := h.len; have := h'.len; omega))
theorem Pg.scale (h : Pg l n S B) (hT : 0 < T) : Pg l n (S * T) (B * T) := ⟨h.trim, h.len, h.sz.scale hT⟩
end
end DN

/-! DN9: primes, square-free integers, integer square roots (plain). -/
namespace DN
def Pr (p : Nat) : Prop := 2 ≤ p ∧ ∀ m, m ∣ p → m = 1 ∨ m = p
theorem exPr : ∀ n : Nat, 2 ≤ n → ∃ p, Pr p ∧ p ∣ n := by
  intro n
  induction n using Nat.strongRecOn with
  | _ n ih =>
    intro h
    by_cases hp : Pr n
    · exact ⟨n, hp, Nat.dvd_refl n⟩
    · have : ∃ m, m ∣ n ∧ m ≠ 1 ∧ m ≠ n := by
        apply Classical.byContradiction
        intro hc
        refine hp ⟨h, fun m hm => ?_⟩
        apply Classical.byContradiction
        intro hm2
        exact hc ⟨m, hm, fun e => hm2 (.inl e), fun e => hm2 (.inr e)⟩
      obtain ⟨m, hm, h1, h2⟩ := this
      have hle : m ≤ n := Nat.le_of_dvd (by omega) hm
      have h0 : m ≠ 0 := fun e => by subst e; have := Nat.eq_zero_of_zero_dvd hm; omega
      obtain ⟨p, hp1, hp2⟩ := ih m (by omega) (by omega)
      exact ⟨p, hp1, Nat.dvd_trans hp2 hm⟩
theorem Pr.cop {p a : Nat} (h : Pr p) (ha : ¬ p ∣ a) : Nat.Coprime p a := by
  rcases h.2 _ (Nat.gcd_dvd_left p a) with e | e
  · exact e
  · exact absurd (e ▸ Nat.gcd_dvd_right p a) ha
theorem Pr.mul {p a b : Nat} (h : Pr p) (hd : p ∣ a * b) : p ∣ a ∨ p ∣ b := by
  by_cases ha : p ∣ a
  · exact .inl ha
  · exact .inr ((h.cop ha).dvd_of_dvd_mul_left hd)
/-- no square above 1 divides it -/
def SF (n : Nat) : Prop := ∀ t, 2 ≤ t → ¬ t * t ∣ n
theorem SF.of_pr {n : Nat} (h : ∀ p, Pr p → ¬ p * p ∣ n) : SF n := fun t ht hd => by
  obtain ⟨p, hp, hpt⟩ := exPr t ht
  exact h p hp (Nat.dvd_trans (Nat.mul_dvd_mul hpt hpt) hd)
/-- d is o o i l; all parts below part are put into o and i -/
structure Sqi (n o i l part : Nat) : Prop where
  eq : n = o * o * i * l
  o1 : 1 ≤ o
  i1 : 1 ≤ i
  l1 : 1 ≤ l
  p2 : 2 ≤ part
  low : ∀ t, 2 ≤ t → t < part → ¬ t ∣ l
  isf : SF i
  ifac : ∀ p, Pr p → p ∣ i → p < part
theorem Sqi.start {n : Nat} (h : 1 ≤ n) : Sqi n 1 1 n 2 := ⟨by simp, by omega, by omega, h, by omega, fun t h1 h2 => by omega, fun t ht hd => by
  have := Nat.le_of_dvd (by omega) hd
  have : 2 * 2 ≤ t * t := Nat.mul_le_mul ht ht
  omega, fun p hp hd => by have := Nat.le_of_dvd (by omega) hd; have := hp.1; omega⟩
theorem Sqi.square {n o i l part : Nat} (h : Sqi n o i l part) (hd : part * part ∣ l) : Sqi n (o * part) i (l / (part * part)) part := by
  obtain ⟨k, rfl⟩ := hd
  have hp := h.p2
  have hpp : 0 < part * part := Nat.mul_pos (by omega) (by omega)
  have hk : k ≠ 0 := fun e => by have := h.l1; rw [e] at this; omega
  rw [Nat.mul_div_cancel_left k hpp]
  refine ⟨by rw [h.eq]; grind, Nat.mul_pos h.o1 (by omega), h.i1, by omega, hp, fun t h1 h2 hd => h.low t h1 h2 (Nat.dvd_trans hd (Nat.dvd_mul_left ..)), h.isf, h.ifac⟩
theorem Sqi.skip {n o i l part : Nat} (h : Sqi n o i l part) (hd : ¬ part ∣ l) : Sqi n o i l (part + 1) :=
  ⟨h.eq, h.o1, h.i1, h.l1, by have := h.p2; omega, fun t h1 h2 => by
    by_cases e : t = part
    · rw [e]; exact hd
    · exact h.low t h1 (by omega), h.isf, fun p h1 h2 => by have := h.ifac p h1 h2; omega⟩
theorem Sqi.once {n o i l part : Nat} (h : Sqi n o i l part) (hs : ¬ part * part ∣ l) (hd : part ∣ l) : Sqi n o (i * part) (l / part) (part + 1) := by
  obtain ⟨k, rfl⟩ := hd
  have hp := h.p2
  have hk : k ≠ 0 := fun e => by have := h.l1; rw [e] at this; omega
  have hpr : Pr part := ⟨hp, fun m hm => by
    apply Classical.byContradiction
    intro hc
    have hle : m ≤ part := Nat.le_of_dvd (by omega) hm
    have h0 : m ≠ 0 := fun e => by subst e; have := Nat.eq_zero_of_zero_dvd hm; omega
    have h1 : m ≠ 1 := fun e => hc (.inl e)
    have h2 : m ≠ part := fun e => hc (.inr e)
    exact h.low m (by omega) (by omega) (Nat.dvd_trans hm (Nat.dvd_mul_right ..))⟩
  have hni : ¬ part ∣ i := fun hd => by have := h.ifac part hpr hd; omega
  rw [Nat.mul_div_cancel_left k (by omega)]
  refine ⟨by rw [h.eq]; grind, h.o1, Nat.mul_pos h.i1 (by omega), by omega, by omega, ?_, ?_, ?_⟩
  · intro t h1 h2 hd
    by_cases e : t = part
    · subst e
      exact hs (Nat.mul_dvd_mul_left _ hd)
    · exact h.low t h1 (by omega) (Nat.dvd_trans hd (Nat.dvd_mul_left ..))
  · refine SF.of_pr fun p hp2 hd => ?_
    by_cases e : p = part
    · subst e
      have : p ∣ i := Nat.dvd_of_mul_dvd_mul_right (by omega) hd
      exact hni this
    · have hc : ¬ p ∣ part := fun hd => by
        rcases hpr.2 p hd with e1 | e1
        · have := hp2.1; omega
        · exact e e1
      have c1 := hp2.cop hc
      have c2 : Nat.Coprime (p * p) part := Nat.Coprime.mul_left c1 c1
      exact h.isf p hp2.1 (c2.dvd_of_dvd_mul_right hd)
  · intro p h1 h2
    rcases h1.mul h2 with h3 | h3
    · have := h.ifac p h1 h3; omega
    · have := Nat.le_of_dvd (by omega) h3; omega
/-- behind the loop: what is left is a square, or free of squares -/
theorem Sqi.done {n o i l part : Nat} (h : Sqi n o i l part) (hb : l < part * part * part) (hs : ∀ r, r * r ≠ l) : SF (i * l) := by
  have hsf : SF l := fun t ht hd => by
    obtain ⟨m, rfl⟩ := hd
    have hp := h.p2
    have ht2 : part ≤ t := by
      apply Classical.byContradiction
      intro hc
      exact h.low t ht (by omega) (by rw [Nat.mul_assoc]; exact Nat.dvd_mul_right ..)
    have m1 : m < part := by
      apply Classical.byContradiction
      intro hc
      have e1 : part * part ≤ t * t := Nat.mul_le_mul ht2 ht2
      have e2 : part * part * part ≤ t * t * m := Nat.mul_le_mul e1 (by omega)
      omega
    by_cases m2 : 2 ≤ m
    · exact h.low m m2 m1 (Nat.dvd_mul_left ..)
    · have h0 : m ≠ 0 := fun e => by have := h.l1; rw [e] at this; omega
      have : m = 1 := by omega
      exact hs t (by rw [this]; simp)
  refine SF.of_pr fun p hp hd => ?_
  by_cases hlt : p < part
  · have hc : ¬ p ∣ l := h.low p hp.1 hlt
    have c1 := hp.cop hc
    have c2 : Nat.Coprime (p * p) l := Nat.Coprime.mul_left c1 c1
    exact h.isf p hp.1 (c2.dvd_of_dvd_mul_right hd)
  · have hc : ¬ p ∣ i := fun e => hlt (h.ifac p hp e)
    have c1 := hp.cop hc
    have c2 : Nat.Coprime (p * p) i := Nat.Coprime.mul_left c1 c1
    exact hsf p hp.1 (c2.dvd_of_dvd_mul_left hd)
/-- the parts are told by the number alone -/
theorem sq_uniq {o i o' i' : Nat} (h : SF i) (h' : SF i') (ho : 1 ≤ o) (ho' : 1 ≤ o') (e : o * o * i = o' * o' * i') : o = o' ∧ i = i' := by
  have key : ∀ {o i o' i' : Nat}, SF i → 1 ≤ o → 1 ≤ o' → o * o * i = o' * o' * i' → o' ∣ o := by
    intro o i o' i' h ho ho' e
    let g := Nat.gcd o o'
    have g0 : 0 < g := Nat.gcd_pos_of_pos_left _ ho
    obtain ⟨a, ha⟩ : g ∣ o := Nat.gcd_dvd_left o o'
    obtain ⟨b, hb⟩ : g ∣ o' := Nat.gcd_dvd_right o o'
    have hc : Nat.Coprime a b := by
      have := Nat.coprime_div_gcd_div_gcd (m := o) (n := o') g0
      have e1 : o / Nat.gcd o o' = a := by
        show o / g = a
        rw [ha, Nat.mul_div_cancel_left a g0]
      have e2 : o' / Nat.gcd o o' = b := by
        show o' / g = b
        rw [hb, Nat.mul_div_cancel_left b g0]
      rwa [e1, e2] at this
    have e3 : a * a * i = b * b * i' := by
      have h1 : g * g * (a * a * i) = g * g * (b * b * i') := by
        have : (g * a) * (g * a) * i = (g * b) * (g * b) * i' := by rw [← ha, ← hb]; exact e
        grind
      exact Nat.eq_of_mul_eq_mul_left (Nat.mul_pos g0 g0) h1
    have d1 : b * b ∣ a * a * i := ⟨i', e3⟩
    have c2 : Nat.Coprime (b * b) (a * a) := Nat.Coprime.mul_left (Nat.Coprime.mul_right hc.symm hc.symm) (Nat.Coprime.mul_right hc.symm hc.symm)
    have d2 : b * b ∣ i := c2.dvd_of_dvd_mul_left d1
    have b1 : b = 1 := by
      apply Classical.byContradiction
      intro hb1
      have b0 : b ≠ 0 := fun z => by rw [z] at hb; omega
      exact h b (by omega) d2
    rw [b1, Nat.mul_one] at hb
    rw [hb]
    exact ⟨a, ha⟩
  have e1 := key h ho ho' e
  have e2 := key h' ho' ho e.symm
  have eo := Nat.dvd_antisymm e2 e1
  refine ⟨eo, ?_⟩
  subst eo
  exact Nat.eq_of_mul_eq_mul_left (Nat.mul_pos ho ho) e
/-! ### integer square roots by Newton's steps -/
/-- behind a step the number's root is still not above it -/
theorem newton {n f : Nat} (hf : 0 < f) : n < ((f + n / f) / 2 + 1) * ((f + n / f) / 2 + 1) := by
  have hn : n < f * (n / f) + f := by
    have := Nat.div_add_mod n f
    have := Nat.mod_lt n hf
    omega
  generalize n / f = c at *
  have h2 : f + c + 1 ≤ 2 * ((f + c) / 2 + 1) := by omega
  generalize (f + c) / 2 + 1 = s at *
  have h3 : (f + c + 1) * (f + c + 1) ≤ (2 * s) * (2 * s) := Nat.mul_le_mul h2 h2
  have h4 : (2 * s) * (2 * s) = 4 * (s * s) := by grind
  have h5 : 4 * (f * c + f) ≤ (f + c + 1) * (f + c + 1) := by
    rcases Nat.le_total f (c + 1) with h | h
    · obtain ⟨k, hk⟩ : ∃ k, c + 1 = f + k := ⟨c + 1 - f, by omega⟩
      have e1 : f + c + 1 = 2 * f + k := by omega
      have e2 : f * c + f = f * (f + k) := by rw [← hk]; grind
      rw [e1, e2]
      have : (2 * f + k) * (2 * f + k) = 4 * (f * (f + k)) + k * k := by grind
      omega
    · obtain ⟨k, hk⟩ : ∃ k, f = c + 1 + k := ⟨f - (c + 1), by omega⟩
      have e2 : f * c + f = f * (c + 1) := by grind
      rw [e2, hk]
      have : (c + 1 + k + c + 1) * (c + 1 + k + c + 1) = 4 * ((c + 1 + k) * (c + 1)) + k * k := by grind
      omega
  omega
end DN

/-! DN10: sizes by one exponent; quotients. -/
namespace DN
open DL
/-- S times it is integral, S and the tops at most 2 ^ n -/
structure Sx {d : Int} (e : El d) (n : Nat) : Prop where
  ex : ∃ S B : Nat, Sz e S B ∧ S ≤ 2 ^ n ∧ B ≤ 2 ^ n
section
variable {d : Int} {x y : El d} {n m : Nat}
theorem Sz.sx {S B : Nat} (h : Sz x S B) (h1 : S ≤ 2 ^ n) (h2 : B ≤ 2 ^ n) : Sx x n := ⟨S, B, h, h1, h2⟩
theorem Sx.mono (h : Sx x n) (hn : n ≤ m) : Sx x m := by
  obtain ⟨S, B, h1, h2, h3⟩ := h.ex
  have := Nat.pow_le_pow_right (show 0 < 2 by decide) hn
  exact ⟨S, B, h1, by omega, by omega⟩
theorem Sx.add (h : Sx x n) (h' : Sx y m) : Sx (x + y) (n + m + 1) := by
  obtain ⟨S, B, h1, h2, h3⟩ := h.ex
  obtain ⟨T, C, k1, k2, k3⟩ := h'.ex
  have a := (h1.scale k1.pos).add (by have := k1.scale h1.pos; rw [Nat.mul_comm T S] at this; exact this)
  have e1 : S * T ≤ 2 ^ n * 2 ^ m := Nat.mul_le_mul h2 k2
  have e2 : B * T ≤ 2 ^ n * 2 ^ m := Nat.mul_le_mul h3 k2
  have e3 : C * S ≤ 2 ^ m * 2 ^ n := Nat.mul_le_mul k3 h2
  rw [Nat.mul_comm (2 ^ m)] at e3
  rw [← Nat.pow_add] at e1 e2 e3
  have e4 : 2 ^ (n + m + 1) = 2 ^ (n + m) * 2 := Nat.pow_succ ..
  exact ⟨_, _, a, by rw [e4]; omega, by rw [e4]; omega⟩
theorem Sx.mul (h : Sx x n) (h' : Sx y m) : Sx (x * y) (n + m) := by
  obtain ⟨S, B, h1, h2, h3⟩ := h.ex
  obtain ⟨T, C, k1, k2, k3⟩ := h'.ex
  exact ⟨_, _, h1.mul k1, by rw [Nat.pow_add]; exact Nat.mul_le_mul h2 k2, by rw [Nat.pow_add]; exact Nat.mul_le_mul h3 k3⟩
theorem Sx.neg (h : Sx x n) : Sx (-x) n := by
  obtain ⟨S, B, h1, h2, h3⟩ := h.ex
  exact ⟨S, B, h1.neg, h2, h3⟩
theorem Sx.zero : Sx (0 : El d) n := ⟨1, 0, Sz.zero (by decide), Nat.one_le_two_pow, Nat.zero_le _⟩
theorem Sx.one : Sx (1 : El d) n := ⟨1, 1, Sz.int 1 (by decide), Nat.one_le_two_pow, Nat.one_le_two_pow⟩
/-- so are the parts of its tuple -/
theorem Sx.canon (h : Sx x n) (hd : d ≠ 0) {p q s : Int} (c : Canon x p q s) : s.natAbs ≤ 2 ^ n ∧ p.natAbs ≤ 2 ^ n ∧ q.natAbs ≤ 2 ^ n := by
  obtain ⟨S, B, h1, h2, h3⟩ := h.ex
  obtain ⟨a, b, e⟩ := h1.canon hd c
  exact ⟨by omega, by omega, by omega⟩
theorem Sx.of_canon {p q s : Int} (c : Canon x p q s) (h1 : s.natAbs ≤ 2 ^ n) (h2 : p.natAbs + q.natAbs * d.natAbs ≤ 2 ^ n) : Sx x n := by
  have hs := c.pos
  have e : ((s.natAbs : Nat) : Int) = s := by omega
  exact ⟨s.natAbs, _, ⟨by omega, p, q, by rw [e]; exact c.hp, by rw [e]; exact c.hq, Nat.le_refl _⟩, h1, h2⟩
/-! ### quotients -/
/-- no square: a a - b b d is zero at zero alone -/
def Nsq (d : Int) : Prop := ∀ p q : Int, p * p = q * q * d → p = 0 ∧ q = 0
theorem Nsq.of {d : Int} (h1 : d ≠ 1) (h0 : d ≠ 0) (h : SF d.natAbs) : Nsq d := by
  intro p q e
  have en : p.natAbs * p.natAbs * 1 = q.natAbs * q.natAbs * d.natAbs := by
    have := congrArg Int.natAbs e
    rw [Int.natAbs_mul, Int.natAbs_mul, Int.natAbs_mul] at this
    omega
  by_cases hq : q = 0
  · subst hq
    have : p * p = 0 := by rw [e]; simp
    rcases Int.mul_eq_zero.mp this with z | z <;> exact ⟨z, rfl⟩
  · by_cases hp : p = 0
    · subst hp
      have : q * q * d = 0 := by rw [← e]; simp
      rcases Int.mul_eq_zero.mp this with z | z
      · rcases Int.mul_eq_zero.mp z with z | z <;> exact ⟨rfl, z⟩
      · exact absurd z h0
    · have s1 : SF 1 := fun t ht hd => by
        have := Nat.le_of_dvd (by decide) hd
        have : 2 * 2 ≤ t * t := Nat.mul_le_mul ht ht
        omega
      have := (sq_uniq s1 h (by omega) (by omega) en).2
      have hd : d = -1 := by omega
      subst hd
      have p2 : 0 < p * p := by
        rcases Int.lt_or_lt_of_ne hp with z | z
        · exact Int.mul_pos_of_neg_of_neg z z
        · exact Int.mul_pos z z
      have q2 : 0 ≤ q * q := by
        rcases Int.lt_or_lt_of_ne hq with z | z
        · exact Int.le_of_lt (Int.mul_pos_of_neg_of_neg z z)
        · exact Int.le_of_lt (Int.mul_pos z z)
      omega
/-- the inverse -/
def inv (x : El d) : El d := ⟨x.a / (x.a * x.a - x.b * x.b * d), -x.b / (x.a * x.a - x.b * x.b * d)⟩
/-- its tops and bottom, not yet in lowest terms -/
theorem inv_raw (hn : Nsq d) (hx : x ≠ 0) {p q s : Int} (c : Canon x p q s) : ((s * p : Int) : Rat) = (inv x).a * ((p * p - q * q * d : Int) : Rat) ∧ ((-(s * q) : Int) : Rat) = (inv x).b * ((p * p - q * q * d : Int) : Rat) ∧ p * p - q * q * d ≠ 0 := by
  have hN : p * p - q * q * d ≠ 0 := fun z => by
    obtain ⟨z1, z2⟩ := hn p q (by omega)
    apply hx
    have := c.el
    rw [this, z1, z2]
    ext
    · show ((0 : Int) : Rat) / s = 0; grind
    · show ((0 : Int) : Rat) / s = 0; grind
  have hs : (s : Rat) ≠ 0 := rcast_ne (by have := c.pos; omega)
  have hNr : ((p * p - q * q * d : Int) : Rat) ≠ 0 := rcast_ne hN
  have e0 : ((p * p - q * q * d : Int) : Rat) = (x.a * x.a - x.b * x.b * d) * (s * s) := by
    rw [Rat.intCast_sub, rcast_mul, rcast_mul, rcast_mul, c.hp, c.hq]; grind
  have hD : x.a * x.a - x.b * x.b * d ≠ 0 := fun z => hNr (by rw [e0, z]; grind)
  refine ⟨?_, ?_, hN⟩
  · rw [e0, rcast_mul, c.hp]
    show (s : Rat) * (x.a * s) = x.a / (x.a * x.a - x.b * x.b * d) * ((x.a * x.a - x.b * x.b * d) * (s * s))
    grind
  · rw [e0, Rat.intCast_neg, rcast_mul, c.hq]
    show -((s : Rat) * (x.b * s)) = -x.b / (x.a * x.a - x.b * x.b * d) * ((x.a * x.a - x.b * x.b * d) * (s * s))
    grind
theorem mul_inv (hn : Nsq d) (hx : x ≠ 0) : x * inv x = 1 := by
  obtain ⟨h1, h2, h3⟩ := inv_raw hn hx (cn_ok x)
  have c := cn_ok x
  have hs : ((cn x).2.2 : Rat) ≠ 0 := rcast_ne (by have := c.pos; omega)
  have e0 : (((cn x).1 * (cn x).1 - (cn x).2.1 * (cn x).2.1 * d : Int) : Rat) = (x.a * x.a - x.b * x.b * d) * ((cn x).2.2 * (cn x).2.2) := by
    rw [Rat.intCast_sub, rcast_mul, rcast_mul, rcast_mul, c.hp, c.hq]; grind
  have hD : x.a * x.a - x.b * x.b * d ≠ 0 := fun z => rcast_ne h3 (by rw [e0, z]; grind)
  ext
  · show x.a * (x.a / (x.a * x.a - x.b * x.b * d)) + x.b * (-x.b / (x.a * x.a - x.b * x.b * d)) * d = 1
    grind
  · show x.a * (-x.b / (x.a * x.a - x.b * x.b * d)) + x.b * (x.a / (x.a * x.a - x.b * x.b * d)) = 0
    grind
theorem raw_sz {P Q S : Int} (hS : S ≠ 0) (h1 : (P : Rat) = x.a * S) (h2 : (Q : Rat) = x.b * S) : Sz x S.natAbs (P.natAbs + Q.natAbs * d.natAbs) := by
  by_cases h : 0 < S
  · have e : ((S.natAbs : Nat) : Int) = S := by omega
    exact ⟨by omega, P, Q, by rw [e]; exact h1, by rw [e]; exact h2, Nat.le_refl _⟩
  · have e : ((S.natAbs : Nat) : Int) = -S := by omega
    exact ⟨by omega, -P, -Q, by rw [e, Rat.intCast_neg, Rat.intCast_neg, h1]; grind, by rw [e, Rat.intCast_neg, Rat.intCast_neg, h2]; grind, by rw [Int.natAbs_neg, Int.natAbs_neg]; exact Nat.le_refl _⟩
theorem Sx.inv (hn : Nsq d) (hx : x ≠ 0) (hd0 : d ≠ 0) (hd : d.natAbs ≤ 2 ^ 40) (h : Sx x n) : Sx (DN.inv x) (2 * n + 41) := by
  have c := cn_ok x
  obtain ⟨h1, h2, h3⟩ := inv_raw hn hx c
  obtain ⟨b1, b2, b3⟩ := h.canon hd0 c
  generalize (cn x).1 = p at *
  generalize (cn x).2.1 = q at *
  generalize (cn x).2.2 = s at *
  have e2 : 2 ^ (2 * n + 41) = 2 ^ n * 2 ^ n * 2 ^ 40 * 2 := by rw [show 2 * n + 41 = n + n + 40 + 1 by omega, Nat.pow_succ, Nat.pow_add, Nat.pow_add]
  have m1 : s.natAbs * p.natAbs ≤ 2 ^ n * 2 ^ n := Nat.mul_le_mul b1 b2
  have m2 : s.natAbs * q.natAbs * d.natAbs ≤ 2 ^ n * 2 ^ n * 2 ^ 40 := Nat.mul_le_mul (Nat.mul_le_mul b1 b3) hd
  have m3 : p.natAbs * p.natAbs ≤ 2 ^ n * 2 ^ n := Nat.mul_le_mul b2 b2
  have m4 : q.natAbs * q.natAbs * d.natAbs ≤ 2 ^ n * 2 ^ n * 2 ^ 40 := Nat.mul_le_mul (Nat.mul_le_mul b3 b3) hd
  have up : 2 ^ n * 2 ^ n ≤ 2 ^ n * 2 ^ n * 2 ^ 40 := Nat.le_mul_of_pos_right _ (by decide)
  refine ⟨_, _, raw_sz h3 h1 h2, ?_, ?_⟩
  · have : (p * p - q * q * d).natAbs ≤ p.natAbs * p.natAbs + q.natAbs * q.natAbs * d.natAbs := by
      refine Nat.le_trans (Int.natAbs_sub_le ..) ?_
      rw [Int.natAbs_mul, Int.natAbs_mul, Int.natAbs_mul]; exact Nat.le_refl _
    rw [e2]; omega
  · rw [Int.natAbs_neg, Int.natAbs_mul, Int.natAbs_mul, e2]; omega
end
end DN

namespace K01
open PySem PySem.Spec PyProof.Rows L2 DL
def top (i : Nat) : Stmt := (PySem.Challenge.rw_twicestep_k01_numbers_of_any_values).prog.main.body.getD i (.Pass ⟨0, 0, 0, 0⟩)
abbrev FnP (K : PySem.W.Frag) (x : Str) (st : Stmt) (dvs : List V) (f : Addr) (fd : FuncData) : Prop := FunD K x x (defArgs st) (defBody st) (defScope st) dvs [] f fd
abbrev errL : List Str := ["BadNumber", "OtherRoot"]
abbrev clsL : List Str := ["StepError", "BadNumber"]
abbrev c_MOST_SQUAREFREE : D := .int 1000000000000
abbrev c_NIL : D := .tup [.int 0, .int 0, .int 1, .int 1]
structure Txt (K : PySem.W.Frag) (mg : Str → Option Value) : Prop where
  n_abs : mg "abs" = none
  n_all : mg "all" = none
  n_bool : mg "bool" = none
  n_int : mg "int" = none
  n_isinstance : mg "isinstance" = none
  n_len : mg "len" = none
  n_list : mg "list" = none
  n_max : mg "max" = none
  n_range : mg "range" = none
  n_repr : mg "repr" = none
  n_str : mg "str" = none
  n_tuple : mg "tuple" = none
  m_gcd : mg "gcd" = some (.builtin "math.gcd")
  c_MOST_SQUAREFREE : Con K mg "MOST_SQUAREFREE" c_MOST_SQUAREFREE
  c_NIL : Con K mg "NIL" c_NIL
  err : ∀ n ∈ errL, ErrF K mg n
  exm : ∀ n ∈ errL, ∀ c ∈ clsL, PySem.W.exmOne K (.ref (He.ga K n)) (.ref (He.ga K c)) = some (isErr n c) ∧ PySem.W.kitOne K (.ref (He.ga K n)) (.ref (He.ga K c)) = some (isErr n c)
  cg : ∀ c ∈ clsL, mg c = some (.ref (He.ga K c))
theorem sci_BadNumber : FnScope ["self", "thing"] ["self", "thing"] (defScope (metOf (top 3))) := ⟨rfl, rfl, rfl, by decide +kernel, rfl, by decide +kernel, by decide +kernel⟩
theorem sci_OtherRoot : FnScope ["self", "thing"] ["self", "thing"] (defScope (metOf (top 4))) := ⟨rfl, rfl, rfl, by decide +kernel, rfl, by decide +kernel, by decide +kernel⟩
abbrev N_is_whole : List Str := ["thing"]
abbrev p_is_whole : List Str := ["thing"]
theorem sc_is_whole : FnScope N_is_whole p_is_whole (defScope (top 8)) := ⟨rfl, rfl, rfl, by decide +kernel, rfl, by decide +kernel, by decide +kernel⟩
abbrev N_square_root : List Str := ["number", "found", "further"]
abbrev p_square_root : List Str := ["number"]
theorem sc_square_root : FnScope N_square_root p_square_root (defScope (top 9)) := ⟨rfl, rfl, rfl, by decide +kernel, rfl, by decide +kernel, by decide +kernel⟩
abbrev N_square_parts : List Str := ["d", "left", "outside", "inside", "part", "root"]
abbrev p_square_parts : List Str := ["d"]
theorem sc_square_parts : FnScope N_square_parts p_square_parts (defScope (top 10)) := ⟨rfl, rfl, rfl, by decide +kernel, rfl, by decide +kernel, by decide +kernel⟩
abbrev N_is_squarefree : List Str := ["d"]
abbrev p_is_squarefree : List Str := ["d"]
theorem sc_is_squarefree : FnScope N_is_squarefree p_is_squarefree (defScope (top 11)) := ⟨rfl, rfl, rfl, by decide +kernel, rfl, by decide +kernel, by decide +kernel⟩
abbrev N_is_number_value : List Str := ["thing", "item", "p", "q", "s", "d"]
abbrev p_is_number_value : List Str := ["thing"]
theorem sc_is_number_value : FnScope N_is_number_value p_is_number_value (defScope (top 12)) := ⟨rfl, rfl, rfl, by decide +kernel, rfl, by decide +kernel, by decide +kernel⟩
abbrev N_need_number : List Str := ["thing"]
abbrev p_need_number : List Str := ["thing"]
theorem sc_need_number : FnScope N_need_number p_need_number (defScope (top 13)) := ⟨rfl, rfl, rfl, by decide +kernel, rfl, by decide +kernel, by decide +kernel⟩
abbrev N_lowered : List Str := ["p", "q", "s", "d", "common"]
abbrev p_lowered : List Str := ["p", "q", "s", "d"]
theorem sc_lowered : FnScope N_lowered p_lowered (defScope (top 14)) := ⟨rfl, rfl, rfl, by decide +kernel, rfl, by decide +kernel, by decide +kernel⟩
abbrev N_num_made : List Str := ["p", "q", "s", "d", "outside", "inside"]
abbrev p_num_made : List Str := ["p", "q", "s", "d"]
theorem sc_num_made : FnScope N_num_made p_num_made (defScope (top 15)) := ⟨rfl, rfl, rfl, by decide +kernel, rfl, by decide +kernel, by decide +kernel⟩
abbrev N_num : List Str := ["top", "bottom"]
abbrev p_num : List Str := ["top", "bottom"]
theorem sc_num : FnScope N_num p_num (defScope (top 16)) := ⟨rfl, rfl, rfl, by decide +kernel, rfl, by decide +kernel, by decide +kernel⟩
abbrev N_do_go_together : List Str := ["a", "b"]
abbrev p_do_go_together : List Str := ["a", "b"]
theorem sc_do_go_together : FnScope N_do_go_together p_do_go_together (defScope (top 17)) := ⟨rfl, rfl, rfl, by decide +kernel, rfl, by decide +kernel, by decide +kernel⟩
abbrev N_root_under : List Str := ["a", "b"]
abbrev p_root_under : List Str := ["a", "b"]
theorem sc_root_under : FnScope N_root_under p_root_under (defScope (top 18)) := ⟨rfl, rfl, rfl, by decide +kernel, rfl, by decide +kernel, by decide +kernel⟩
abbrev N_num_times : List Str := ["a", "b", "d"]
abbrev p_num_times : List Str := ["a", "b"]
theorem sc_num_times : FnScope N_num_times p_num_times (defScope (top 19)) := ⟨rfl, rfl, rfl, by decide +kernel, rfl, by decide +kernel, by decide +kernel⟩
abbrev N_num_root : List Str := ["a", "top", "bottom"]
abbrev p_num_root : List Str := ["a"]
theorem sc_num_root : FnScope N_num_root p_num_root (defScope (top 20)) := ⟨rfl, rfl, rfl, by decide +kernel, rfl, by decide +kernel, by decide +kernel⟩
abbrev N_is_number : List Str := ["thing"]
abbrev p_is_number : List Str := ["thing"]
theorem sc_is_number : FnScope N_is_number p_is_number (defScope (top 22)) := ⟨rfl, rfl, rfl, by decide +kernel, rfl, by decide +kernel, by decide +kernel⟩
abbrev N_number_of : List Str := ["p", "q", "s", "d", "item"]
abbrev p_number_of : List Str := ["p", "q", "s", "d"]
theorem sc_number_of : FnScope N_number_of p_number_of (defScope (top 23)) := ⟨rfl, rfl, rfl, by decide +kernel, rfl, by decide +kernel, by decide +kernel⟩
abbrev N_need_two : List Str := ["one", "other"]
abbrev p_need_two : List Str := ["one", "other"]
theorem sc_need_two : FnScope N_need_two p_need_two (defScope (top 24)) := ⟨rfl, rfl, rfl, by decide +kernel, rfl, by decide +kernel, by decide +kernel⟩
abbrev N_need_together : List Str := ["one", "other"]
abbrev p_need_together : List Str := ["one", "other"]
theorem sc_need_together : FnScope N_need_together p_need_together (defScope (top 25)) := ⟨rfl, rfl, rfl, by decide +kernel, rfl, by decide +kernel, by decide +kernel⟩
abbrev N_times : List Str := ["one", "other"]
abbrev p_times : List Str := ["one", "other"]
theorem sc_times : FnScope N_times p_times (defScope (top 26)) := ⟨rfl, rfl, rfl, by decide +kernel, rfl, by decide +kernel, by decide +kernel⟩
abbrev N_root_of : List Str := ["top", "bottom"]
abbrev p_root_of : List Str := ["top", "bottom"]
theorem sc_root_of : FnScope N_root_of p_root_of (defScope (top 27)) := ⟨rfl, rfl, rfl, by decide +kernel, rfl, by decide +kernel, by decide +kernel⟩
abbrev N__law_deck : List Str := ["script", "seed", "mixed", "cell"]
abbrev p__law_deck : List Str := ["script", "seed"]
theorem sc__law_deck : FnScope N__law_deck p__law_deck (defScope (top 29)) := ⟨rfl, rfl, rfl, by decide +kernel, rfl, by decide +kernel, by decide +kernel⟩
abbrev N__law_draw : List Str := ["deck", "many", "cell", "figure"]
abbrev p__law_draw : List Str := ["deck", "many"]
theorem sc__law_draw : FnScope N__law_draw p__law_draw (defScope (top 30)) := ⟨rfl, rfl, rfl, by decide +kernel, rfl, by decide +kernel, by decide +kernel⟩
abbrev N__law_great : List Str := ["deck", "many", "found", "left"]
abbrev p__law_great : List Str := ["deck", "many"]
theorem sc__law_great : FnScope N__law_great p__law_great (defScope (top 31)) := ⟨rfl, rfl, rfl, by decide +kernel, rfl, by decide +kernel, by decide +kernel⟩
abbrev N__law_pick : List Str := ["deck", "some"]
abbrev p__law_pick : List Str := ["deck", "some"]
theorem sc__law_pick : FnScope N__law_pick p__law_pick (defScope (top 32)) := ⟨rfl, rfl, rfl, by decide +kernel, rfl, by decide +kernel, by decide +kernel⟩
abbrev N__law_near : List Str := ["deck", "far"]
abbrev p__law_near : List Str := ["deck", "far"]
theorem sc__law_near : FnScope N__law_near p__law_near (defScope (top 33)) := ⟨rfl, rfl, rfl, by decide +kernel, rfl, by decide +kernel, by decide +kernel⟩
abbrev N__law_common : List Str := ["one", "other"]
abbrev p__law_common : List Str := ["one", "other"]
theorem sc__law_common : FnScope N__law_common p__law_common (defScope (top 34)) := ⟨rfl, rfl, rfl, by decide +kernel, rfl, by decide +kernel, by decide +kernel⟩
abbrev N__law_is_integer : List Str := ["thing"]
abbrev p__law_is_integer : List Str := ["thing"]
theorem sc__law_is_integer : FnScope N__law_is_integer p__law_is_integer (defScope (top 35)) := ⟨rfl, rfl, rfl, by decide +kernel, rfl, by decide +kernel, by decide +kernel⟩
abbrev N__law_is_lean : List Str := ["number", "p"]
abbrev p__law_is_lean : List Str := ["number"]
theorem sc__law_is_lean : FnScope N__law_is_lean p__law_is_lean (defScope (top 36)) := ⟨rfl, rfl, rfl, by decide +kernel, rfl, by decide +kernel, by decide +kernel⟩
abbrev N__law_any : List Str := ["deck", "deep", "way", "some", "turn"]
abbrev p__law_any : List Str := ["deck", "deep"]
theorem sc__law_any : FnScope N__law_any p__law_any (defScope (top 37)) := ⟨rfl, rfl, rfl, by decide +kernel, rfl, by decide +kernel, by decide +kernel⟩
abbrev N__law_instead : List Str := ["some", "at", "item"]
abbrev p__law_instead : List Str := ["some", "at", "item"]
theorem sc__law_instead : FnScope N__law_instead p__law_instead (defScope (top 38)) := ⟨rfl, rfl, rfl, by decide +kernel, rfl, by decide +kernel, by decide +kernel⟩
abbrev N__law_bent : List Str := ["deck", "thing", "deep", "way", "is_great", "x", "at"]
abbrev p__law_bent : List Str := ["deck", "thing", "deep"]
theorem sc__law_bent : FnScope N__law_bent p__law_bent (defScope (top 39)) := ⟨rfl, rfl, rfl, by decide +kernel, rfl, by decide +kernel, by decide +kernel⟩
abbrev N__law_parted : List Str := ["d", "left", "whole", "p"]
abbrev p__law_parted : List Str := ["d"]
theorem sc__law_parted : FnScope N__law_parted p__law_parted (defScope (top 40)) := ⟨rfl, rfl, rfl, by decide +kernel, rfl, by decide +kernel, by decide +kernel⟩
abbrev N__law_made : List Str := ["p", "q", "s", "d", "part"]
abbrev p__law_made : List Str := ["p", "q", "s", "d"]
theorem sc__law_made : FnScope N__law_made p__law_made (defScope (top 41)) := ⟨rfl, rfl, rfl, by decide +kernel, rfl, by decide +kernel, by decide +kernel⟩
abbrev N__law_fraction : List Str := ["top", "bottom"]
abbrev p__law_fraction : List Str := ["top", "bottom"]
theorem sc__law_fraction : FnScope N__law_fraction p__law_fraction (defScope (top 42)) := ⟨rfl, rfl, rfl, by decide +kernel, rfl, by decide +kernel, by decide +kernel⟩
abbrev N__law_is_number : List Str := ["thing", "x", "p", "q", "s", "d"]
abbrev p__law_is_number : List Str := ["thing"]
theorem sc__law_is_number : FnScope N__law_is_number p__law_is_number (defScope (top 43)) := ⟨rfl, rfl, rfl, by decide +kernel, rfl, by decide +kernel, by decide +kernel⟩
abbrev N__law_asked : List Str := ["some", "way", "p", "q", "s", "d", "e"]
abbrev p__law_asked : List Str := ["some", "way"]
theorem sc__law_asked : FnScope N__law_asked p__law_asked (defScope (top 44)) := ⟨rfl, rfl, rfl, by decide +kernel, rfl, by decide +kernel, by decide +kernel⟩
abbrev N__law_due : List Str := ["some", "x", "d", "whole", "top", "bottom"]
abbrev p__law_due : List Str := ["some"]
theorem sc__law_due : FnScope N__law_due p__law_due (defScope (top 45)) := ⟨rfl, rfl, rfl, by decide +kernel, rfl, by decide +kernel, by decide +kernel⟩
abbrev N__law_wide : List Str := ["deck", "size", "p", "q", "s", "lean", "by", "more"]
abbrev p__law_wide : List Str := ["deck"]
theorem sc__law_wide : FnScope N__law_wide p__law_wide (defScope (top 46)) := ⟨rfl, rfl, rfl, by decide +kernel, rfl, by decide +kernel, by decide +kernel⟩
abbrev N__law_are_squares_right : List Str := ["deck", "by", "more", "p", "q", "s", "d", "due", "near", "great", "told"]
abbrev p__law_are_squares_right : List Str := ["deck"]
theorem sc__law_are_squares_right : FnScope N__law_are_squares_right p__law_are_squares_right (defScope (top 47)) := ⟨rfl, rfl, rfl, by decide +kernel, rfl, by decide +kernel, by decide +kernel⟩
abbrev N__law_for_root : List Str := ["deck", "size", "by", "to"]
abbrev p__law_for_root : List Str := ["deck"]
theorem sc__law_for_root : FnScope N__law_for_root p__law_for_root (defScope (top 48)) := ⟨rfl, rfl, rfl, by decide +kernel, rfl, by decide +kernel, by decide +kernel⟩
abbrev N_law : List Str := ["script", "deck", "turn", "some", "number", "near", "told", "at", "odd", "wrong", "thing"]
abbrev p_law : List Str := ["script"]
theorem sc_law : FnScope N_law p_law (defScope (top 49)) := ⟨rfl, rfl, rfl, by decide +kernel, rfl, by decide +kernel, by decide +kernel⟩
section
variable {P : Program} {w : World} {K : PySem.W.Frag} {mg : Str → Option Value} {base : Heap} {f : Addr} {fd : FuncData} {k : Nat}
theorem ok_deck (F : FnP K "_law_deck" (top 29) [] f fd) (n_int : mg "int" = none) (n_list : mg "list" = none) : FnG P w K mg base CX0 (k + 1) f fd p__law_deck (spDeck2 K "left") := by
  refine okRaw F sc__law_deck (fun vs H Q E h => ?_) fun cdv A outer s H vs Q E hr hG h => ?_
  · obtain ⟨a, ns, z, rfl, _⟩ := h
    rfl
  refine ⟨_, pss_cons (ps_set (i := 2) sc__law_deck.nd rfl (Or.inl rfl) (pv 1) rfl (Or.inl rfl))
    (pss_cons (ps_for PassesOwn.never rfl (pi_list (pe_slice sl_list (pv 0) po_none (po_some pe_int)))
      (pg_name (i := 3) sc__law_deck.nd rfl (Or.inl rfl) (Or.inl rfl))
      (pss_one (ps_set (i := 2) sc__law_deck.nd rfl (Or.inl rfl) (pe_op op_modN (pe_callTy call_int1 rfl n_int (by decide +kernel) (pa_cons (pe_op op_add (pe_op op_add (pe_op op_mulO (pv 2) pe_int) (pe_op op_modN (pe_callTy call_int1 rfl n_int (by decide +kernel) (pa_cons (pv 3) pa_nil)) pe_int)) pe_int) pa_nil)) pe_int) rfl (Or.inl rfl))))
    (pss_one (ps_ret (pe_disp (pps_cons pe_str (pe_revL (pe_callTy call_list_of rfl n_list (by decide +kernel) (pa_cons (pe_slice sl_list (pv 0) po_none (po_some pe_int)) pa_nil))) (pps_cons pe_str (pv 2) (pps_cons pe_str pe_int pps_nil))) rfl rfl (by simp) (by decide))))), ?_⟩
  obtain ⟨a, ns, z, rfl, hz, hS, hl, hq⟩ := h
  obtain ⟨cs, hcs, hcl⟩ := cut_ints ns hl
  refine ⟨_, rfl, _, rfl, _, rfl, _, _, rfl, hS, fun p hp => ?_⟩
  refine ⟨_, rfl, ⟨_, .inl (.inl upd_same)⟩, ?_⟩
  rw [hcs]
  have e1 : Ex H (upd H p (.lst (cs.map V.int))) := upd_ex hp
  refine ⟨fun i m σ H' => m = cs.length - i ∧ i ≤ cs.length ∧ H' = upd H p (.lst (cs.map V.int)) ∧ ∃ mi c, (-(2 ^ 40) < mi ∧ mi < 2 ^ 40) ∧ σ = [some (V.ref a), some (.int z), some (.int mi), c],
    ⟨_, rfl, Nat.zero_le _, rfl, _, none, hz, rfl⟩, ?_⟩
  rintro i m σ H' ⟨rfl, hi, rfl, mi, c, hm, rfl⟩
  by_cases hlt : i < cs.length
  · refine .inr ⟨⟨_, V.int cs[i], .inl (.inl upd_same), by rw [List.getElem?_map, List.getElem?_eq_getElem hlt]; rfl⟩, fun σ2 H2 => ∃ mi c, H2 = upd H p (.lst (cs.map V.int)) ∧ (-(2 ^ 40) < mi ∧ mi < 2 ^ 40) ∧ σ2 = [some (V.ref a), some (.int z), some (.int mi), c], ?_, ?_⟩
    · rintro σ2 H2 ⟨mi, c, rfl, h1, rfl⟩
      exact ⟨_, Nat.sub_lt_sub_left hlt (Nat.lt_succ_self i), rfl, hlt, rfl, mi, c, h1, rfl⟩
    · rintro x H2 ⟨rfl, hx⟩
      have hx1 := hx (cs.map V.int) (.inl (.inl upd_same))
      rw [List.getElem?_map, List.getElem?_eq_getElem hlt] at hx1
      cases hx1
      refine ⟨_, rfl, _, _, rfl, rfl, IntMulOk.of_right (intBits_le_64 (by decide) (by decide)), _, rfl, .inl ⟨_, rfl, _, _, rfl, rfl, (by decide : (2147483629 : Int) ≠ 0), _, _, rfl, rfl, _, _, rfl, rfl, .inl ⟨_, rfl, _, _, rfl, rfl, (by decide : (2147483563 : Int) ≠ 0), ?_⟩⟩⟩
      exact ⟨_, _, rfl, fmod_small _ (by decide) (by decide), rfl⟩
  · have e : i = cs.length := by omega
    subst e
    refine .inl ⟨⟨_, .inl (.inl upd_same), by rw [List.length_map]; exact Nat.le_refl _⟩, ?_⟩
    intro d hd
    have e2 : Ex (upd H p (.lst (cs.map V.int))) (upd (upd H p (.lst (cs.map V.int))) d (.dK [])) := upd_ex hd
    have e3 := e1.trans e2
    refine ⟨_, rfl, _, rfl, _, _, rfl, e3.sqL hS, fun p2 hp2 => ⟨p2, _, rfl, .inl (.inl (.inl upd_same)), fun p3 hp3 => ⟨_, _, rfl, .inl (.inl upd_same), fun l hl2 => ?_⟩⟩⟩
    rw [hcs, ← List.map_reverse] at *
    have e4 := e2.trans ((upd_ex (o := .lst (cs.map V.int)) hp2).trans ((upd_ex (o := .lst (cs.map V.int)) hp3).trans (upd_ex (o := .lst (cs.reverse.map V.int)) hl2)))
    have e5 : Ex (upd (upd H p (.lst (cs.map V.int))) d (.dK [])) _ := (upd_ex (o := .lst (cs.map V.int)) hp2).trans ((upd_ex (o := .lst (cs.map V.int)) hp3).trans (upd_ex (o := .lst (cs.reverse.map V.int)) hl2))
    have hdd := e5 d _ upd_same
    have nd : H d = none := by
      cases e : H d with
      | none => rfl
      | some o => rw [e1 d o e] at hd; cases hd
    have nl : H l = none := by
      cases e : H l with
      | none => rfl
      | some o =>
        have := ((e3.trans (upd_ex (o := .lst (cs.map V.int)) hp2)).trans (upd_ex (o := .lst (cs.map V.int)) hp3)) l o e
        rw [this] at hl2; cases hl2
    have ndl : d ≠ l := fun z => by
      have := ((upd_ex (o := .lst (cs.map V.int)) hp2).trans (upd_ex (o := .lst (cs.map V.int)) hp3)) d _ (upd_same (o := .dK []))
      subst z
      rw [this] at hl2; cases hl2
    refine ⟨_, rfl, hdd, dkL "left" l mi 0, rfl, (show (3 : Nat) ≤ 15 by decide), hq _ d l ?_ nd nl ?_⟩
    · intro b o hb
      have : b ≠ d := fun z => by rw [z, nd] at hb; cases hb
      rw [upd_ne this]
      exact (e1.trans e4) b o hb
    · refine DeckAt.of (cs := cs.reverse) (mi := mi) (dr := 0) ?_ ?_ (by rw [List.length_reverse]; exact hcl) hm ndl
      · rw [dk_merge (by decide +kernel) (by decide +kernel)]
        exact upd_same
      · rw [upd_ne (Ne.symm ndl)]
        exact upd_same
/-- the end of a draw (the other deck) -/
def drawTail (a1 a2 a3 a4 a5 a6 a7 a8 : Int) : TS := tSeq (tAsg (tOp rModN (tCB rInt1 (tCons (tOp rAddI (tDGet (tVar 0) (tC (.str "mixed"))) (tOp rMulO (tC (.int a1)) (tDGet (tVar 0) (tC (.str "draws"))))) tNil)) (tC (.int a2))) (gName 3))
  (tSeq (tAsg (tOp rModN (tCB rInt1 (tCons (tOp rAddI (tOp rAddI (tOp rMulO (tVar 3) (tVar 3)) (tOp rMulO (tC (.int a3)) (tDGet (tVar 0) (tC (.str "draws"))))) (tC (.int a4))) tNil)) (tC (.int a5))) (gName 3))
  (tSeq (tAsg (tOp rModN (tCB rInt1 (tCons (tOp rAddI (tOp rMulO (tVar 3) (tC (.int a6))) (tC (.int a7))) tNil)) (tC (.int a8))) (gName 3))
  (tRet (tOp rModN (tCB rInt1 (tCons (tOp rDivO (tVar 3) (tC (.int 64))) tNil)) (tVar 1)))))
theorem drawTail_ok {a1 a2 a3 a4 a5 a6 a7 a8 n mi dr : Int} {nm : Str} {d l : Addr} {c e : Option V} {H' : Hp} {Q : VK} (c1 : ¬ nm = "mixed") (c2 : ¬ nm = "draws") (h1 : Builtin.Int.intBits a1 ≤ 64) (h2 : 0 < a2) (h2' : a2 < 2 ^ 40) (h3 : Builtin.Int.intBits a3 ≤ 64) (h5 : 0 < a5) (h6 : Builtin.Int.intBits a6 ≤ 64) (h8 : 0 < a8)
    (n1 : 1 ≤ n) (n2 : n < 1073741824) (g : H' d = some (.dK (dkL nm l mi dr))) (q : ∀ u : Int, 0 ≤ u → u < n → Q (.int u) H') :
    drawTail a1 a2 a3 a4 a5 a6 a7 a8 { nx := fun _ H' => Q .non H', rt := Q } [some (V.ref d), some (.int n), c, e] H' := by
  refine ⟨_, rfl, _, _, rfl, dgetK g (dk_m c1), _, rfl, _, _, rfl, dgetK g (dk_d c2), _, _, rfl, rfl, IntMulOk.of_left h1, _, _, rfl, rfl, .inl ⟨_, rfl, _, _, rfl, rfl, (by omega : a2 ≠ 0), ?_⟩⟩
  have b := fmod_small (mi + a1 * dr) h2 h2'
  refine ⟨_, rfl, _, rfl, _, _, rfl, rfl, IntMulOk.of_left (intBits_le_64 (by omega) (by omega)), _, rfl, _, _, rfl, dgetK g (dk_d c2), _, _, rfl, rfl, IntMulOk.of_left h3, _, _, rfl, rfl, _, _, rfl, rfl, .inl ⟨_, rfl, _, _, rfl, rfl, (by omega : a5 ≠ 0), ?_⟩⟩
  refine ⟨_, rfl, _, _, rfl, rfl, IntMulOk.of_right h6, _, _, rfl, rfl, .inl ⟨_, rfl, _, _, rfl, rfl, (by omega : a8 ≠ 0), ?_⟩⟩
  refine ⟨_, rfl, _, _, rfl, rfl, ⟨by decide, PyProof.noPylong_small (by decide)⟩, .inl ⟨_, rfl, _, rfl, _, _, rfl, rfl, (by omega : n ≠ 0), q _ (Int.fmod_nonneg_of_pos _ (by omega)) (Int.fmod_lt_of_pos _ (by omega))⟩⟩
theorem ok_draw (F : FnP K "_law_draw" (top 30) [] f fd) (n_int : mg "int" = none) (n_max : mg "max" = none) : FnG P w K mg base CX0 (k + 1) f fd p__law_draw (spG K "left" false fnDraw) := by
  refine okRaw F sc__law_draw (fun vs H Q E h => ?_) fun cdv A outer s H vs Q E hr hG h => ?_
  · obtain ⟨d, l, F, ds, q, x, _, h, hf, _⟩ := h
    obtain ⟨n, rfl, _⟩ := hf
    rw [h.length]; rfl
  have hu := hu_of hr
  refine ⟨_, pss_cons (ps_dput (td := tVar 0) (ty := tC (.str "draws")) hu (pv 0) pe_str (pe_op op_add (pe_dget (td := tVar 0) (ty := tC (.str "draws")) hu (pv 0) pe_str (fun _ _ => rfl)) pe_int) rfl)
    (pss_cons (ps_if (pt_cmpR (op_neD hr.units) (pe_dget (td := tVar 0) (ty := tC (.str "left")) hu (pv 0) pe_str (fun _ _ => rfl)) (pe_lst pa_nil) rfl)
      (pss_cons (ps_set (i := 2) sc__law_draw.nd rfl (Or.inl rfl) (pe_bm0 PySem.F.plainAttrs_list PySem.F.slot_list_pop PySem.F.type_list_pop mt_pop (pe_dget (td := tVar 0) (ty := tC (.str "left")) hu (pv 0) pe_str (fun _ _ => rfl))) rfl (Or.inl rfl))
        (pss_cons (ps_if (pt_cmpR op_ge (pv 2) (pe_op op_pow pe_int pe_int) (nomark _))
          (pss_cons (ps_expr (pe_bm PySem.F.plainAttrs_list PySem.F.slot_list_append PySem.F.type_list_append mt_append (pe_dget (td := tVar 0) (ty := tC (.str "left")) hu (pv 0) pe_str (fun _ _ => rfl)) (pa_cons (pe_op op_divO (pv 2) (pe_callB (call_max2 rfl) rfl n_max (by decide +kernel) (pa_cons pe_int (pa_cons (pv 1) pa_nil)))) pa_nil)) rfl)
            (pss_one (ps_ret (pe_op op_modN (pe_callTy call_int1 rfl n_int (by decide +kernel) (pa_cons (pv 2) pa_nil)) (pv 1)))))
          pss_nil)
        (pss_one (ps_dput (td := tVar 0) (ty := tC (.str "mixed")) hu (pv 0) pe_str (pe_op op_modN (pe_callTy call_int1 rfl n_int (by decide +kernel) (pa_cons (pe_op op_add (pe_op op_add (pe_op op_mulO (pe_dget (td := tVar 0) (ty := tC (.str "mixed")) hu (pv 0) pe_str (fun _ _ => rfl)) pe_int) (pe_op op_modN (pe_callTy call_int1 rfl n_int (by decide +kernel) (pa_cons (pv 2) pa_nil)) pe_int)) pe_int) pa_nil)) pe_int) rfl))))
      pss_nil)
    (pss_cons (ps_set (i := 3) sc__law_draw.nd rfl (Or.inl rfl) (pe_op op_modN (pe_callTy call_int1 rfl n_int (by decide +kernel) (pa_cons (pe_op op_add (pe_dget (td := tVar 0) (ty := tC (.str "mixed")) hu (pv 0) pe_str (fun _ _ => rfl)) (pe_op op_mulO pe_int (pe_dget (td := tVar 0) (ty := tC (.str "draws")) hu (pv 0) pe_str (fun _ _ => rfl)))) pa_nil)) pe_int) rfl (Or.inl rfl))
    (pss_cons (ps_set (i := 3) sc__law_draw.nd rfl (Or.inl rfl) (pe_op op_modN (pe_callTy call_int1 rfl n_int (by decide +kernel) (pa_cons (pe_op op_add (pe_op op_add (pe_op op_mulO (pv 3) (pv 3)) (pe_op op_mulO pe_int (pe_dget (td := tVar 0) (ty := tC (.str "draws")) hu (pv 0) pe_str (fun _ _ => rfl)))) pe_int) pa_nil)) pe_int) rfl (Or.inl rfl))
    (pss_cons (ps_set (i := 3) sc__law_draw.nd rfl (Or.inl rfl) (pe_op op_modN (pe_callTy call_int1 rfl n_int (by decide +kernel) (pa_cons (pe_op op_add (pe_op op_mulO (pv 3) pe_int) pe_int) pa_nil)) pe_int) rfl (Or.inl rfl))
    (pss_one (ps_ret (pe_op op_modN (pe_callTy call_int1 rfl n_int (by decide +kernel) (pa_cons (pe_op op_divO (pv 3) pe_int) pa_nil)) (pv 1)))))))), ?_⟩
  obtain ⟨d, l, F, ds, q, x, r, ha, ⟨n, rfl, n1, n2, hd⟩, hq, hx⟩ := h
  obtain ⟨rfl⟩ : vs = [.ref d, .int n] := by
    cases ha with
    | cons a1 a2 => cases a1; cases a2 with
      | cons a3 a4 => cases a3; cases a4; rfl
  obtain ⟨cs, mi, dr, e1, e2, e3, e4, e5⟩ := r.j
  have e1 : H d = some (.dK (dkL "left" l mi dr)) := e1
  have c1 : ¬ (("left" : Str) = "mixed") := by decide +kernel
  have c2 : ¬ (("left" : Str) = "draws") := by decide +kernel
  let H1 := upd H d (.dK (dkL "left" l mi (dr + 1)))
  have f1 : H1 d = some (.dK (dkL "left" l mi (dr + 1))) := upd_same
  have f2 : H1 l = some (.lst (cs.map V.int)) := by rw [← e2]; exact upd_ne (Ne.symm e5)
  refine ⟨_, rfl, _, _, rfl, dgetK e1 (dk_d c2), _, _, rfl, rfl, _, rfl, _, H1, rfl, dputK e1 (show (3 : Nat) < sizeLine by decide) (dk_pd c2), ?_⟩
  have tail : ∀ (c e : Option V) (mi' : Int) (H' : Hp), H' d = some (.dK (dkL "left" l mi' (dr + 1))) → (∀ u : Int, 0 ≤ u → u < n → Q (.int u) H') →
      drawTail 31337 2147483647 48271 11 2147483629 69621 77 2147483563 { nx := fun _ H' => Q .non H', rt := Q } [some (V.ref d), some (.int n), c, e] H' := fun c e mi' H' g1 g2 =>
    drawTail_ok c1 c2 (by decide) (by decide) (by decide) (by decide) (by decide) (by decide) (by decide) n1 n2 g1 g2
  refine ⟨_, rfl, _, _, rfl, dgetK f1 dk_l, by decide, fun p hp => ?_⟩
  let H2 := upd H1 p (.lst [])
  have fe : Ex H1 H2 := upd_ex hp
  have f3 := fe _ _ f1
  have f4 := fe _ _ f2
  have keep : ∀ (cs' : List Int), cs'.length ≤ 63 → DL.Fr (some ("left", d, l)) H F (upd H2 l (.lst (cs'.map V.int))) F := fun cs' h => r.deck (fun b o hb1 hb2 e => by
    rw [upd_ne hb2]
    refine fe _ _ ?_
    rw [show H1 b = H b from upd_ne hb1]
    exact e) (DeckAt.of (by rw [upd_ne e5]; exact f3) upd_same h e4 e5)
  have keep2 : ∀ (cs' : List Int) (mi' : Int), cs'.length ≤ 63 → (-(2 ^ 40) < mi' ∧ mi' < 2 ^ 40) → DL.Fr (some ("left", d, l)) H F (upd (upd H2 l (.lst (cs'.map V.int))) d (.dK (dkL "left" l mi' (dr + 1)))) F := fun cs' mi' h hm => r.deck (fun b o hb1 hb2 e => by
    rw [upd_ne hb1, upd_ne hb2]
    refine fe _ _ ?_
    rw [show H1 b = H b from upd_ne hb1]
    exact e) (DeckAt.of upd_same (by rw [upd_ne (Ne.symm e5)]; exact upd_same) h hm e5)
  refine ⟨_, _, .lst (.inl (.inl f4)) (pints_dp cs), .lst (.inl (.inl upd_same)) .nil, pints_shaped cs, rfl, ?_⟩
  rcases snoc_cases cs with rfl | ⟨cs, c, rfl⟩
  · refine ⟨_, rfl, Eq.mpr (if_neg (by rw [show PyData.eqv (.list (([] : List Int).map PyData.int)) (.list []) = true from rfl]; decide)) ?_⟩
    exact tail none none mi _ f3 fun u u1 u2 => hq _ _ F _ (r.deck (fun b o hb1 hb2 e => fe _ _ (by rw [show H1 b = H b from upd_ne hb1]; exact e)) (DeckAt.of f3 f4 e3 e4 e5)) (.int u) (hd u u1 u2)
  · refine ⟨_, rfl, Eq.mpr (if_pos (by rw [show PyData.eqv (.list ((cs ++ [c]).map PyData.int)) (.list []) = false from by cases cs <;> rfl]; rfl)) ?_⟩
    have e6 : ((cs ++ [c]).map V.int).dropLast = cs.map V.int := by rw [List.map_append]; exact List.dropLast_concat
    have e7 : ((cs ++ [c]).map V.int)[((cs ++ [c]).map V.int).length - 1]? = some (V.int c) := by
      rw [List.map_append, List.length_append, List.map_singleton, List.length_singleton, Nat.add_sub_cancel, List.getElem?_append_right (Nat.le_refl _), Nat.sub_self]; rfl
    have e8 : cs.length ≤ 62 := by rw [List.length_append, List.length_singleton] at e3; omega
    refine ⟨_, rfl, _, _, rfl, dgetK f3 dk_l, .inl ⟨rfl, _, .inl (.inl f4)⟩, _, _, _, rfl, rfl, f4, e7, ?_⟩
    rw [e6]
    have g1 : (upd H2 l (.lst (cs.map V.int))) d = some (.dK (dkL "left" l mi (dr + 1))) := by rw [upd_ne e5]; exact f3
    refine ⟨_, rfl, _, _, rfl, rfl, ⟨by decide, by decide, by decide⟩, _, _, rfl, rfl, _, rfl, ?_⟩
    by_cases hc : (10 : Int) ^ (18 : Int).toNat ≤ c
    · refine Eq.mpr (if_pos (decide_eq_true hc)) ?_
      have hm : (if n > 2 then n else 2) ≠ 0 ∧ (if n > 2 then n else 2).natAbs < 1073741824 := by split <;> omega
      refine ⟨_, rfl, _, _, rfl, dgetK g1 dk_l, .inl ⟨rfl, _, .inl (.inl upd_same)⟩, _, rfl, _, rfl, _, _, rfl, _, _, rfl, rfl, ⟨hm.1, PyProof.noPylong_small hm.2⟩, _, _, _, rfl, rfl, upd_same, ?_, ?_⟩
      · rw [List.length_map]; exact Nat.lt_of_le_of_lt e8 (by decide)
      · rw [upd_upd, show cs.map V.int ++ [V.int (c.fdiv (if n > 2 then n else 2))] = (cs ++ [c.fdiv (if n > 2 then n else 2)]).map V.int from by rw [List.map_append]; rfl]
        refine ⟨_, rfl, .inl ⟨_, rfl, _, rfl, _, _, rfl, rfl, (by omega : n ≠ 0), ?_⟩⟩
        exact hq _ _ F _ (keep _ (by rw [List.length_append, List.length_singleton]; omega)) (.int _) (hd _ (Int.fmod_nonneg_of_pos _ (by omega)) (Int.fmod_lt_of_pos _ (by omega)))
    · refine Eq.mpr (if_neg (by rw [decide_eq_false hc]; exact Bool.false_ne_true)) ?_
      refine ⟨_, rfl, _, _, rfl, dgetK g1 (dk_m c1), _, _, rfl, rfl, IntMulOk.of_right (intBits_le_64 (by decide) (by decide)), _, rfl, .inl ⟨_, rfl, _, _, rfl, rfl, (by decide : (2147483629 : Int) ≠ 0), _, _, rfl, rfl, _, _, rfl, rfl, .inl ⟨_, rfl, _, _, rfl, rfl, (by decide : (2147483587 : Int) ≠ 0), _, rfl, _, _, rfl, dputK g1 (show (3 : Nat) < sizeLine by decide) (dk_pm c1), ?_⟩⟩⟩
      exact tail (some (.int c)) none _ _ upd_same fun u u1 u2 => hq _ _ F _ (keep2 cs _ (by omega) (fmod_small _ (by decide) (by decide))) (.int u) (hd u u1 u2)
end
noncomputable def g_is_whole : FS :=
  (fRet (hAnd (f1 (sIsi "int") (fVar 0)) (hNot (f1 (sIsi "bool") (fVar 0)))))
noncomputable def fn_is_whole : Fn := lock fun ds q x => ds.length = 1 ∧ g_is_whole (startD 1 ds) (entry false q x)
theorem fn_is_whole_eq (ds : List D) (q : D → Prop) (x : XD) : fn_is_whole ds q x = (ds.length = 1 ∧ g_is_whole (startD 1 ds) (entry false q x)) := lock_at _ ds q x
abbrev Cal_is_whole (P : Program) (w : World) (K : PySem.W.Frag) (mg : Str → Option Value) (base : Heap) : Prop := Cal P w K mg base 1 "is_whole" p_is_whole (spN K false fn_is_whole) [[]] []
noncomputable def g_square_root : FS :=
  (fSeq (fPar2 1 2 (fCons (fVar 0) (fCons (f2 sDiv (f2 sAdd (fVar 0) (fK (.int 1))) (fK (.int 2))) fNil)))
  (fSeq (fWhile (fTest (f2 (sCmp lt') (fVar 2) (fVar 1)))
  (fSeq (fAsg (fVar 2) (fName 1))
  (fAsg (f2 sDiv (f2 sAdd (fVar 1) (f2 sDiv (fVar 0) (fVar 1))) (fK (.int 2))) (fName 2))))
  (fRet (fVar 1))))
noncomputable def fn_square_root : Fn := lock fun ds q x => ds.length = 1 ∧ g_square_root (startD 3 ds) (entry false q x)
theorem fn_square_root_eq (ds : List D) (q : D → Prop) (x : XD) : fn_square_root ds q x = (ds.length = 1 ∧ g_square_root (startD 3 ds) (entry false q x)) := lock_at _ ds q x
abbrev Cal_square_root (P : Program) (w : World) (K : PySem.W.Frag) (mg : Str → Option Value) (base : Heap) : Prop := Cal P w K mg base 1 "square_root" p_square_root (spN K false fn_square_root) [[]] []
noncomputable def g_square_parts : FS :=
  (fSeq (fAsg (fTup (fCons (f1 sAbs (fVar 0)) (fCons (fK (.int 1)) (fCons (fIf (fTest (f2 (sCmp gt') (fVar 0) (fK (.int 0)))) (fK (.int 1)) (f1 sNeg (fK (.int 1)))) (fCons (fK (.int 2)) fNil))))) (fGseq 4 (fGcons (fName 1) (fGcons (fName 2) (fGcons (fName 3) (fGcons (fName 4) fGnil))))))
  (fSeq (fWhile (fTest (f2 (sCmp le') (f2 sMul (f2 sMul (fVar 4) (fVar 4)) (fVar 4)) (fVar 1)))
  (fSeq (fWhile (fTest (f2 (sEq false) (f2 sMod (fVar 1) (f2 sMul (fVar 4) (fVar 4))) (fK (.int 0))))
  (fPar2 1 2 (fCons (f2 sDiv (fVar 1) (f2 sMul (fVar 4) (fVar 4))) (fCons (f2 sMul (fVar 2) (fVar 4)) fNil))))
  (fSeq (fIfS (fTest (f2 (sEq false) (f2 sMod (fVar 1) (fVar 4)) (fK (.int 0))))
  (fPar2 1 3 (fCons (f2 sDiv (fVar 1) (fVar 4)) (fCons (f2 sMul (fVar 3) (fVar 4)) fNil)))
  fSkip)
  (fAugI 4 (fun i j => i + j) (fK (.int 1))))))
  (fSeq (fAsg (fCall fn_square_root [] (fCons (fVar 1) fNil)) (fName 5))
  (fSeq (fIfS (fTest (f2 (sEq false) (f2 sMul (fVar 5) (fVar 5)) (fVar 1)))
  (fRet (fTup (fCons (f2 sMul (fVar 2) (fVar 5)) (fCons (fVar 3) fNil))))
  fSkip)
  (fRet (fTup (fCons (fVar 2) (fCons (f2 sMul (fVar 3) (fVar 1)) fNil))))))))
noncomputable def fn_square_parts : Fn := lock fun ds q x => ds.length = 1 ∧ g_square_parts (startD 6 ds) (entry false q x)
theorem fn_square_parts_eq (ds : List D) (q : D → Prop) (x : XD) : fn_square_parts ds q x = (ds.length = 1 ∧ g_square_parts (startD 6 ds) (entry false q x)) := lock_at _ ds q x
abbrev Cal_square_parts (P : Program) (w : World) (K : PySem.W.Frag) (mg : Str → Option Value) (base : Heap) : Prop := Cal P w K mg base 2 "square_parts" p_square_parts (spN K false fn_square_parts) [[]] []
noncomputable def g_is_squarefree : FS :=
  (fRet (hAnd (f2 (sEq true) (fVar 0) (fK (.int 0))) (hAnd (f2 (sCmp le') (f1 sAbs (fVar 0)) (fK c_MOST_SQUAREFREE)) (f2 (sEq false) (f2 sIx (fCall fn_square_parts [] (fCons (fVar 0) fNil)) (fK (.int 0))) (fK (.int 1))))))
noncomputable def fn_is_squarefree : Fn := lock fun ds q x => ds.length = 1 ∧ g_is_squarefree (startD 1 ds) (entry false q x)
theorem fn_is_squarefree_eq (ds : List D) (q : D → Prop) (x : XD) : fn_is_squarefree ds q x = (ds.length = 1 ∧ g_is_squarefree (startD 1 ds) (entry false q x)) := lock_at _ ds q x
abbrev Cal_is_squarefree (P : Program) (w : World) (K : PySem.W.Frag) (mg : Str → Option Value) (base : Heap) : Prop := Cal P w K mg base 3 "is_squarefree" p_is_squarefree (spN K false fn_is_squarefree) [[]] []
noncomputable def g_is_number_value : FS :=
  (fSeq (fIfS (gOr (gNot (fTest (f1 (sIsi "tuple") (fVar 0)))) (gOr (fTest (f2 (sEq true) (f1 sLen (fVar 0)) (fK (.int 4)))) (gNot (fTest (f1 sAll (fLc (fIt (fVar 0)) (fName 1) fYes (fCall fn_is_whole [] (fCons (fVar 1) fNil)) [1]))))))
  (fRet (fK (.bl false)))
  fSkip)
  (fSeq (fAsg (fVar 0) (fGseq 4 (fGcons (fName 2) (fGcons (fName 3) (fGcons (fName 4) (fGcons (fName 5) fGnil))))))
  (fSeq (fIfS (gOr (fTest (f2 (sCmp lt') (fVar 4) (fK (.int 1)))) (fTest (f2 (sEq true) (f2 sGcd (f2 sGcd (fVar 2) (fVar 3)) (fVar 4)) (fK (.int 1)))))
  (fRet (fK (.bl false)))
  fSkip)
  (fRet (fIf (fTest (f2 (sEq false) (fVar 3) (fK (.int 0)))) (f2 (sEq false) (fVar 5) (fK (.int 1))) (hAnd (f2 (sEq true) (fVar 5) (fK (.int 1))) (fCall fn_is_squarefree [] (fCons (fVar 5) fNil))))))))
noncomputable def fn_is_number_value : Fn := lock fun ds q x => ds.length = 1 ∧ g_is_number_value (startD 6 ds) (entry false q x)
theorem fn_is_number_value_eq (ds : List D) (q : D → Prop) (x : XD) : fn_is_number_value ds q x = (ds.length = 1 ∧ g_is_number_value (startD 6 ds) (entry false q x)) := lock_at _ ds q x
abbrev Cal_is_number_value (P : Program) (w : World) (K : PySem.W.Frag) (mg : Str → Option Value) (base : Heap) : Prop := Cal P w K mg base 4 "is_number_value" p_is_number_value (spN K false fn_is_number_value) [[]] []
noncomputable def g_need_number : FS :=
  (fIfS (gNot (fTest (fCall fn_is_number_value [] (fCons (fVar 0) fNil))))
  (fRaise "BadNumber" (fVar 0))
  fSkip)
noncomputable def fn_need_number : Fn := lock fun ds q x => ds.length = 1 ∧ g_need_number (startD 1 ds) (entry false q x)
theorem fn_need_number_eq (ds : List D) (q : D → Prop) (x : XD) : fn_need_number ds q x = (ds.length = 1 ∧ g_need_number (startD 1 ds) (entry false q x)) := lock_at _ ds q x
abbrev Cal_need_number (P : Program) (w : World) (K : PySem.W.Frag) (mg : Str → Option Value) (base : Heap) : Prop := CalX P w K mg base 5 "need_number" p_need_number (spN K false fn_need_number) [[]] []
noncomputable def g_lowered : FS :=
  (fSeq (fAsg (fIf (fTest (f2 (sCmp gt') (fVar 2) (fK (.int 0)))) (f2 sGcd (f2 sGcd (fVar 0) (fVar 1)) (fVar 2)) (f2 sSub (fK (.int 0)) (f2 sGcd (f2 sGcd (fVar 0) (fVar 1)) (fVar 2)))) (fName 4))
  (fRet (fTup (fCons (f2 sDiv (fVar 0) (fVar 4)) (fCons (f2 sDiv (fVar 1) (fVar 4)) (fCons (f2 sDiv (fVar 2) (fVar 4)) (fCons (fIf (fTest (f2 (sEq true) (fVar 1) (fK (.int 0)))) (fVar 3) (fK (.int 1))) fNil)))))))
noncomputable def fn_lowered : Fn := lock fun ds q x => ds.length = 4 ∧ g_lowered (startD 5 ds) (entry false q x)
theorem fn_lowered_eq (ds : List D) (q : D → Prop) (x : XD) : fn_lowered ds q x = (ds.length = 4 ∧ g_lowered (startD 5 ds) (entry false q x)) := lock_at _ ds q x
abbrev Cal_lowered (P : Program) (w : World) (K : PySem.W.Frag) (mg : Str → Option Value) (base : Heap) : Prop := Cal P w K mg base 1 "lowered" p_lowered (spN K false fn_lowered) [[]] []
noncomputable def g_num_made : FS :=
  (fSeq (fIfS (fTest (f2 (sEq false) (fVar 1) (fK (.int 0))))
  (fRet (fCall fn_lowered [] (fCons (fVar 0) (fCons (fK (.int 0)) (fCons (fVar 2) (fCons (fK (.int 1)) fNil))))))
  fSkip)
  (fSeq (fAsg (fCall fn_square_parts [] (fCons (fVar 3) fNil)) (fGseq 2 (fGcons (fName 4) (fGcons (fName 5) fGnil))))
  (fSeq (fIfS (fTest (f2 (sEq false) (fVar 5) (fK (.int 1))))
  (fRet (fCall fn_lowered [] (fCons (f2 sAdd (fVar 0) (f2 sMul (fVar 1) (fVar 4))) (fCons (fK (.int 0)) (fCons (fVar 2) (fCons (fK (.int 1)) fNil))))))
  fSkip)
  (fRet (fCall fn_lowered [] (fCons (fVar 0) (fCons (f2 sMul (fVar 1) (fVar 4)) (fCons (fVar 2) (fCons (fVar 5) fNil)))))))))
noncomputable def fn_num_made : Fn := lock fun ds q x => ds.length = 4 ∧ g_num_made (startD 6 ds) (entry false q x)
theorem fn_num_made_eq (ds : List D) (q : D → Prop) (x : XD) : fn_num_made ds q x = (ds.length = 4 ∧ g_num_made (startD 6 ds) (entry false q x)) := lock_at _ ds q x
abbrev Cal_num_made (P : Program) (w : World) (K : PySem.W.Frag) (mg : Str → Option Value) (base : Heap) : Prop := Cal P w K mg base 3 "num_made" p_num_made (spN K false fn_num_made) [[]] []
noncomputable def g_num : FS :=
  (fRet (fCall fn_lowered [] (fCons (fVar 0) (fCons (fK (.int 0)) (fCons (fVar 1) (fCons (fK (.int 1)) fNil))))))
noncomputable def fn_num : Fn := lock fun ds q x => ds.length = 2 ∧ g_num (startD 2 ds) (entry false q x)
theorem fn_num_eq (ds : List D) (q : D → Prop) (x : XD) : fn_num ds q x = (ds.length = 2 ∧ g_num (startD 2 ds) (entry false q x)) := lock_at _ ds q x
abbrev Cal_num (P : Program) (w : World) (K : PySem.W.Frag) (mg : Str → Option Value) (base : Heap) : Prop := Cal P w K mg base 2 "num" p_num (spN K false fn_num) [[]] []
noncomputable def g_do_go_together : FS :=
  (fRet (hOr (f2 (sEq false) (f2 sIx (fVar 0) (fK (.int 1))) (fK (.int 0))) (hOr (f2 (sEq false) (f2 sIx (fVar 1) (fK (.int 1))) (fK (.int 0))) (f2 (sEq false) (f2 sIx (fVar 0) (fK (.int 3))) (f2 sIx (fVar 1) (fK (.int 3)))))))
noncomputable def fn_do_go_together : Fn := lock fun ds q x => ds.length = 2 ∧ g_do_go_together (startD 2 ds) (entry false q x)
theorem fn_do_go_together_eq (ds : List D) (q : D → Prop) (x : XD) : fn_do_go_together ds q x = (ds.length = 2 ∧ g_do_go_together (startD 2 ds) (entry false q x)) := lock_at _ ds q x
abbrev Cal_do_go_together (P : Program) (w : World) (K : PySem.W.Frag) (mg : Str → Option Value) (base : Heap) : Prop := Cal P w K mg base 1 "do_go_together" p_do_go_together (spN K false fn_do_go_together) [[]] []
noncomputable def g_root_under : FS :=
  (fRet (fIf (fTest (f2 (sEq true) (f2 sIx (fVar 0) (fK (.int 1))) (fK (.int 0)))) (f2 sIx (fVar 0) (fK (.int 3))) (f2 sIx (fVar 1) (fK (.int 3)))))
noncomputable def fn_root_under : Fn := lock fun ds q x => ds.length = 2 ∧ g_root_under (startD 2 ds) (entry false q x)
theorem fn_root_under_eq (ds : List D) (q : D → Prop) (x : XD) : fn_root_under ds q x = (ds.length = 2 ∧ g_root_under (startD 2 ds) (entry false q x)) := lock_at _ ds q x
abbrev Cal_root_under (P : Program) (w : World) (K : PySem.W.Frag) (mg : Str → Option Value) (base : Heap) : Prop := Cal P w K mg base 1 "root_under" p_root_under (spN K false fn_root_under) [[]] []
noncomputable def g_num_times : FS :=
  (fSeq (fAsg (fCall fn_root_under [] (fCons (fVar 0) (fCons (fVar 1) fNil))) (fName 2))
  (fRet (fCall fn_lowered [] (fCons (f2 sAdd (f2 sMul (f2 sIx (fVar 0) (fK (.int 0))) (f2 sIx (fVar 1) (fK (.int 0)))) (f2 sMul (f2 sMul (f2 sIx (fVar 0) (fK (.int 1))) (f2 sIx (fVar 1) (fK (.int 1)))) (fVar 2))) (fCons (f2 sAdd (f2 sMul (f2 sIx (fVar 0) (fK (.int 0))) (f2 sIx (fVar 1) (fK (.int 1)))) (f2 sMul (f2 sIx (fVar 0) (fK (.int 1))) (f2 sIx (fVar 1) (fK (.int 0))))) (fCons (f2 sMul (f2 sIx (fVar 0) (fK (.int 2))) (f2 sIx (fVar 1) (fK (.int 2)))) (fCons (fVar 2) fNil)))))))
noncomputable def fn_num_times : Fn := lock fun ds q x => ds.length = 2 ∧ g_num_times (startD 3 ds) (entry false q x)
theorem fn_num_times_eq (ds : List D) (q : D → Prop) (x : XD) : fn_num_times ds q x = (ds.length = 2 ∧ g_num_times (startD 3 ds) (entry false q x)) := lock_at _ ds q x
abbrev Cal_num_times (P : Program) (w : World) (K : PySem.W.Frag) (mg : Str → Option Value) (base : Heap) : Prop := Cal P w K mg base 2 "num_times" p_num_times (spN K false fn_num_times) [[]] []
noncomputable def g_num_root : FS :=
  (fSeq (fPar2 1 2 (fCons (f2 sIx (fVar 0) (fK (.int 0))) (fCons (f2 sIx (fVar 0) (fK (.int 2))) fNil)))
  (fRet (fIf (fTest (f2 (sEq false) (fVar 1) (fK (.int 0)))) (fK c_NIL) (fCall fn_num_made [] (fCons (fK (.int 0)) (fCons (fK (.int 1)) (fCons (fVar 2) (fCons (f2 sMul (fVar 1) (fVar 2)) fNil))))))))
noncomputable def fn_num_root : Fn := lock fun ds q x => ds.length = 1 ∧ g_num_root (startD 3 ds) (entry false q x)
theorem fn_num_root_eq (ds : List D) (q : D → Prop) (x : XD) : fn_num_root ds q x = (ds.length = 1 ∧ g_num_root (startD 3 ds) (entry false q x)) := lock_at _ ds q x
abbrev Cal_num_root (P : Program) (w : World) (K : PySem.W.Frag) (mg : Str → Option Value) (base : Heap) : Prop := Cal P w K mg base 4 "num_root" p_num_root (spN K false fn_num_root) [[]] []
noncomputable def g_is_number : FS :=
  (fRet (fCall fn_is_number_value [] (fCons (fVar 0) fNil)))
noncomputable def fn_is_number : Fn := lock fun ds q x => ds.length = 1 ∧ g_is_number (startD 1 ds) (entry false q x)
theorem fn_is_number_eq (ds : List D) (q : D → Prop) (x : XD) : fn_is_number ds q x = (ds.length = 1 ∧ g_is_number (startD 1 ds) (entry false q x)) := lock_at _ ds q x
abbrev Cal_is_number (P : Program) (w : World) (K : PySem.W.Frag) (mg : Str → Option Value) (base : Heap) : Prop := Cal P w K mg base 5 "is_number" p_is_number (spN K false fn_is_number) [[]] [(0, ["thing"], [0])]
noncomputable def g_number_of : FS :=
  (fSeq (fIfS (gOr (gNot (fTest (f1 sAll (fLc (fIt (fTup (fCons (fVar 0) (fCons (fVar 1) (fCons (fVar 2) (fCons (fVar 3) fNil)))))) (fName 4) fYes (fCall fn_is_whole [] (fCons (fVar 4) fNil)) [4])))) (gOr (fTest (f2 (sEq false) (fVar 2) (fK (.int 0)))) (fTest (f2 (sEq false) (fVar 3) (fK (.int 0))))))
  (fRaise "BadNumber" (fTup (fCons (fVar 0) (fCons (fVar 1) (fCons (fVar 2) (fCons (fVar 3) fNil))))))
  fSkip)
  (fRet (fCall fn_num_made [] (fCons (fVar 0) (fCons (fVar 1) (fCons (fVar 2) (fCons (fVar 3) fNil)))))))
noncomputable def fn_number_of : Fn := lock fun ds q x => ds.length = 4 ∧ g_number_of (startD 5 ds) (entry false q x)
theorem fn_number_of_eq (ds : List D) (q : D → Prop) (x : XD) : fn_number_of ds q x = (ds.length = 4 ∧ g_number_of (startD 5 ds) (entry false q x)) := lock_at _ ds q x
abbrev Cal_number_of (P : Program) (w : World) (K : PySem.W.Frag) (mg : Str → Option Value) (base : Heap) : Prop := CalX P w K mg base 4 "number_of" p_number_of (spN K false fn_number_of) [[]] [(0, ["d", "s", "q", "p"], [3, 2, 1, 0])]
noncomputable def g_need_two : FS :=
  (fSeq (fDrop (fCall fn_need_number [] (fCons (fVar 0) fNil)))
  (fDrop (fCall fn_need_number [] (fCons (fVar 1) fNil))))
noncomputable def fn_need_two : Fn := lock fun ds q x => ds.length = 2 ∧ g_need_two (startD 2 ds) (entry false q x)
theorem fn_need_two_eq (ds : List D) (q : D → Prop) (x : XD) : fn_need_two ds q x = (ds.length = 2 ∧ g_need_two (startD 2 ds) (entry false q x)) := lock_at _ ds q x
abbrev Cal_need_two (P : Program) (w : World) (K : PySem.W.Frag) (mg : Str → Option Value) (base : Heap) : Prop := CalX P w K mg base 6 "need_two" p_need_two (spN K false fn_need_two) [[]] []
noncomputable def g_need_together : FS :=
  (fIfS (gNot (fTest (fCall fn_do_go_together [] (fCons (fVar 0) (fCons (fVar 1) fNil)))))
  (fRaise "OtherRoot" (fVar 1))
  fSkip)
noncomputable def fn_need_together : Fn := lock fun ds q x => ds.length = 2 ∧ g_need_together (startD 2 ds) (entry false q x)
theorem fn_need_together_eq (ds : List D) (q : D → Prop) (x : XD) : fn_need_together ds q x = (ds.length = 2 ∧ g_need_together (startD 2 ds) (entry false q x)) := lock_at _ ds q x
abbrev Cal_need_together (P : Program) (w : World) (K : PySem.W.Frag) (mg : Str → Option Value) (base : Heap) : Prop := CalX P w K mg base 3 "need_together" p_need_together (spN K false fn_need_together) [[]] []
noncomputable def g_times : FS :=
  (fSeq (fDrop (fCall fn_need_two [] (fCons (fVar 0) (fCons (fVar 1) fNil))))
  (fSeq (fDrop (fCall fn_need_together [] (fCons (fVar 0) (fCons (fVar 1) fNil))))
  (fRet (fCall fn_num_times [] (fCons (fVar 0) (fCons (fVar 1) fNil))))))
noncomputable def fn_times : Fn := lock fun ds q x => ds.length = 2 ∧ g_times (startD 2 ds) (entry false q x)
theorem fn_times_eq (ds : List D) (q : D → Prop) (x : XD) : fn_times ds q x = (ds.length = 2 ∧ g_times (startD 2 ds) (entry false q x)) := lock_at _ ds q x
abbrev Cal_times (P : Program) (w : World) (K : PySem.W.Frag) (mg : Str → Option Value) (base : Heap) : Prop := CalX P w K mg base 7 "times" p_times (spN K false fn_times) [[]] []
noncomputable def g_root_of : FS :=
  (fSeq (fIfS (gOr (gNot (fTest (fCall fn_is_whole [] (fCons (fVar 0) fNil)))) (gOr (gNot (fTest (fCall fn_is_whole [] (fCons (fVar 1) fNil)))) (fTest (f2 (sEq false) (fVar 1) (fK (.int 0))))))
  (fRaise "BadNumber" (fTup (fCons (fVar 0) (fCons (fVar 1) fNil))))
  fSkip)
  (fRet (fCall fn_num_root [] (fCons (fCall fn_num [] (fCons (fVar 0) (fCons (fVar 1) fNil))) fNil))))
noncomputable def fn_root_of : Fn := lock fun ds q x => ds.length = 2 ∧ g_root_of (startD 2 ds) (entry false q x)
theorem fn_root_of_eq (ds : List D) (q : D → Prop) (x : XD) : fn_root_of ds q x = (ds.length = 2 ∧ g_root_of (startD 2 ds) (entry false q x)) := lock_at _ ds q x
abbrev Cal_root_of (P : Program) (w : World) (K : PySem.W.Frag) (mg : Str → Option Value) (base : Heap) : Prop := CalX P w K mg base 5 "root_of" p_root_of (spN K false fn_root_of) [[]] [(0, ["bottom", "top"], [1, 0])]
abbrev Cal__law_deck (P : Program) (w : World) (K : PySem.W.Frag) (mg : Str → Option Value) (base : Heap) : Prop := Cal P w K mg base 1 "_law_deck" p__law_deck (spDeck2 K "left") [[]] []
abbrev fn__law_draw : Fn := fnDraw
abbrev Cal__law_draw (P : Program) (w : World) (K : PySem.W.Frag) (mg : Str → Option Value) (base : Heap) : Prop := Cal P w K mg base 1 "_law_draw" p__law_draw (spG K "left" false fnDraw) [[]] []
noncomputable def g__law_great (d : Addr) : FS :=
  (fSeq (fPar2 2 3 (fCons (fK (.int 0)) (fCons (fVar 1) fNil)))
  (fSeq (fWhile (fTest (f2 (sCmp gt') (fVar 3) (fK (.int 0))))
  (fPar2 2 3 (fCons (f2 sAdd (f2 sMul (fVar 2) (f2 sPow (fK (.int 10)) (fK (.int 6)))) (fCallG fn__law_draw d (fCons (fVar 0) (fCons (f2 sPow (fK (.int 10)) (fK (.int 6))) fNil)))) (fCons (f2 sDiv (fVar 3) (f2 sPow (fK (.int 10)) (fK (.int 6)))) fNil))))
  (fRet (f2 sMod (f1 sInt (fVar 2)) (fVar 1)))))
noncomputable def fn__law_great : Fn := lock fun ds q x => ds.length = 1 ∧ ∀ d, g__law_great d (startD 4 (.ref d :: ds)) (entry false q x)
theorem fn__law_great_eq (ds : List D) (q : D → Prop) (x : XD) : fn__law_great ds q x = (ds.length = 1 ∧ ∀ d, g__law_great d (startD 4 (.ref d :: ds)) (entry false q x)) := lock_at _ ds q x
abbrev Cal__law_great (P : Program) (w : World) (K : PySem.W.Frag) (mg : Str → Option Value) (base : Heap) : Prop := Cal P w K mg base 2 "_law_great" p__law_great (spG K "left" false fn__law_great) [[]] []
noncomputable def g__law_pick (d : Addr) : FS :=
  (fRet (f2 sIx (fVar 1) (fCallG fn__law_draw d (fCons (fVar 0) (fCons (f1 sLen (fVar 1)) fNil)))))
noncomputable def fn__law_pick : Fn := lock fun ds q x => ds.length = 1 ∧ ∀ d, g__law_pick d (startD 2 (.ref d :: ds)) (entry false q x)
theorem fn__law_pick_eq (ds : List D) (q : D → Prop) (x : XD) : fn__law_pick ds q x = (ds.length = 1 ∧ ∀ d, g__law_pick d (startD 2 (.ref d :: ds)) (entry false q x)) := lock_at _ ds q x
abbrev Cal__law_pick (P : Program) (w : World) (K : PySem.W.Frag) (mg : Str → Option Value) (base : Heap) : Prop := Cal P w K mg base 2 "_law_pick" p__law_pick (spG K "left" false fn__law_pick) [[]] []
noncomputable def g__law_near (d : Addr) : FS :=
  (fRet (f2 sSub (fCallG fn__law_draw d (fCons (fVar 0) (fCons (f2 sAdd (f2 sMul (fK (.int 2)) (fVar 1)) (fK (.int 1))) fNil))) (fVar 1)))
noncomputable def fn__law_near : Fn := lock fun ds q x => ds.length = 1 ∧ ∀ d, g__law_near d (startD 2 (.ref d :: ds)) (entry false q x)
theorem fn__law_near_eq (ds : List D) (q : D → Prop) (x : XD) : fn__law_near ds q x = (ds.length = 1 ∧ ∀ d, g__law_near d (startD 2 (.ref d :: ds)) (entry false q x)) := lock_at _ ds q x
abbrev Cal__law_near (P : Program) (w : World) (K : PySem.W.Frag) (mg : Str → Option Value) (base : Heap) : Prop := Cal P w K mg base 2 "_law_near" p__law_near (spG K "left" false fn__law_near) [[]] []
noncomputable def g__law_common : FS :=
  (fSeq (fPar2 0 1 (fCons (f1 sAbs (fVar 0)) (fCons (f1 sAbs (fVar 1)) fNil)))
  (fSeq (fWhile (fTest (f2 (sCmp gt') (fVar 1) (fK (.int 0))))
  (fPar2 0 1 (fCons (fVar 1) (fCons (f2 sMod (f1 sInt (fVar 0)) (fVar 1)) fNil))))
  (fRet (fVar 0))))
noncomputable def fn__law_common : Fn := lock fun ds q x => ds.length = 2 ∧ g__law_common (startD 2 ds) (entry false q x)
theorem fn__law_common_eq (ds : List D) (q : D → Prop) (x : XD) : fn__law_common ds q x = (ds.length = 2 ∧ g__law_common (startD 2 ds) (entry false q x)) := lock_at _ ds q x
abbrev Cal__law_common (P : Program) (w : World) (K : PySem.W.Frag) (mg : Str → Option Value) (base : Heap) : Prop := Cal P w K mg base 1 "_law_common" p__law_common (spN K false fn__law_common) [[]] []
noncomputable def g__law_is_integer : FS :=
  (fRet (hAnd (f1 (sIsi "int") (fVar 0)) (hNot (f1 (sIsi "bool") (fVar 0)))))
noncomputable def fn__law_is_integer : Fn := lock fun ds q x => ds.length = 1 ∧ g__law_is_integer (startD 1 ds) (entry false q x)
theorem fn__law_is_integer_eq (ds : List D) (q : D → Prop) (x : XD) : fn__law_is_integer ds q x = (ds.length = 1 ∧ g__law_is_integer (startD 1 ds) (entry false q x)) := lock_at _ ds q x
abbrev Cal__law_is_integer (P : Program) (w : World) (K : PySem.W.Frag) (mg : Str → Option Value) (base : Heap) : Prop := Cal P w K mg base 1 "_law_is_integer" p__law_is_integer (spN K false fn__law_is_integer) [[]] []
noncomputable def g__law_is_lean : FS :=
  (fSeq (fAsg (fK (.int 2)) (fName 1))
  (fSeq (fWhile (fTest (f2 (sCmp le') (f2 sMul (fVar 1) (fVar 1)) (f1 sAbs (fVar 0))))
  (fSeq (fIfS (fTest (f2 (sEq false) (f2 sMod (f1 sInt (fVar 0)) (f2 sMul (fVar 1) (fVar 1))) (fK (.int 0))))
  (fRet (fK (.bl false)))
  fSkip)
  (fAsg (f2 sAdd (fVar 1) (fK (.int 1))) (fName 1))))
  (fRet (f2 (sEq true) (fVar 0) (fK (.int 0))))))
noncomputable def fn__law_is_lean : Fn := lock fun ds q x => ds.length = 1 ∧ g__law_is_lean (startD 2 ds) (entry false q x)
theorem fn__law_is_lean_eq (ds : List D) (q : D → Prop) (x : XD) : fn__law_is_lean ds q x = (ds.length = 1 ∧ g__law_is_lean (startD 2 ds) (entry false q x)) := lock_at _ ds q x
abbrev Cal__law_is_lean (P : Program) (w : World) (K : PySem.W.Frag) (mg : Str → Option Value) (base : Heap) : Prop := Cal P w K mg base 1 "_law_is_lean" p__law_is_lean (spN K false fn__law_is_lean) [[]] []
noncomputable def g__law_any (rc : Fn) (d : Addr) : FS :=
  (fSeq (fAsg (fCallG fn__law_draw d (fCons (fVar 0) (fCons (fK (.int 10)) fNil))) (fName 2))
  (fSeq (fIfS (fTest (f2 (sCmp lt') (fVar 2) (fK (.int 2))))
  (fRet (fCallG fn__law_pick d (fCons (fVar 0) (fCons (fLst (fCons (fK (.int 0)) (fCons (fK (.int 1)) (fCons (f1 sNeg (fK (.int 1))) (fCons (fK (.int 7)) (fCons (f2 sMul (fK (.int 4)) (f2 sPow (fK (.int 10)) (fK (.int 38)))) (fCons (f1 sNeg (f2 sPow (fK (.int 10)) (fK (.int 20)))) (fCons (fK (.int 2)) (fCons (fK (.int 63)) fNil))))))))) fNil))))
  fSkip)
  (fSeq (fIfS (fTest (f2 (sCmp lt') (fVar 2) (fK (.int 4))))
  (fRet (fCallG fn__law_pick d (fCons (fVar 0) (fCons (fLst (fCons (fK (.str "")) (fCons (fK (.str "a")) (fCons (fK (.str "(0, 1)")) (fCons (fK (.str "1/2")) (fCons (fK (.str "x\ny")) (fCons (fK (.str "~")) fNil))))))) fNil))))
  fSkip)
  (fSeq (fIfS (fTest (f2 (sEq false) (fVar 2) (fK (.int 4))))
  (fRet (fCallG fn__law_pick d (fCons (fVar 0) (fCons (fLst (fCons (fK (.bl true)) (fCons (fK (.bl false)) (fCons (fK .non) fNil)))) fNil))))
  fSkip)
  (fSeq (fAsg (fIf (fTest (f2 (sCmp gt') (fVar 1) (fK (.int 0)))) (fLc (fRg1 (fCallG fn__law_draw d (fCons (fVar 0) (fCons (fK (.int 4)) fNil)))) (fName 4) fYes (fCallG rc d (fCons (fVar 0) (fCons (f2 sSub (fVar 1) (fK (.int 1))) fNil))) [4]) (fLst fNil)) (fName 3))
  (fSeq (fIfS (fTest (f2 (sEq false) (fVar 2) (fK (.int 5))))
  (fRet (fVar 3))
  fSkip)
  (fRet (fIf (fTest (f2 (sEq false) (fVar 2) (fK (.int 6)))) (fDic [.inr "key", .inl 1] (fCons (fVar 3) (fCons (f1 sLen (fVar 3)) fNil))) (f1 sTuple (fVar 3))))))))))
def fn__law_any_0 : Fn := fun _ _ _ => False
noncomputable def fn__law_any_1 : Fn := lock fun ds q x => ds.length = 1 ∧ ∀ d, g__law_any fn__law_any_0 d (startD 5 (.ref d :: ds)) (entry false q x)
theorem fn__law_any_1_eq (ds : List D) (q : D → Prop) (x : XD) : fn__law_any_1 ds q x = (ds.length = 1 ∧ ∀ d, g__law_any fn__law_any_0 d (startD 5 (.ref d :: ds)) (entry false q x)) := lock_at _ ds q x
noncomputable def fn__law_any_2 : Fn := lock fun ds q x => ds.length = 1 ∧ ∀ d, g__law_any fn__law_any_1 d (startD 5 (.ref d :: ds)) (entry false q x)
theorem fn__law_any_2_eq (ds : List D) (q : D → Prop) (x : XD) : fn__law_any_2 ds q x = (ds.length = 1 ∧ ∀ d, g__law_any fn__law_any_1 d (startD 5 (.ref d :: ds)) (entry false q x)) := lock_at _ ds q x
noncomputable def fn__law_any_3 : Fn := lock fun ds q x => ds.length = 1 ∧ ∀ d, g__law_any fn__law_any_2 d (startD 5 (.ref d :: ds)) (entry false q x)
theorem fn__law_any_3_eq (ds : List D) (q : D → Prop) (x : XD) : fn__law_any_3 ds q x = (ds.length = 1 ∧ ∀ d, g__law_any fn__law_any_2 d (startD 5 (.ref d :: ds)) (entry false q x)) := lock_at _ ds q x
noncomputable abbrev fn__law_any : Fn := fn__law_any_3
abbrev Cal__law_any_0 (P : Program) (w : World) (K : PySem.W.Frag) (mg : Str → Option Value) (base : Heap) : Prop := Cal P w K mg base 2 "_law_any" p__law_any (spG K "left" false fn__law_any_0) [[]] []
abbrev Cal__law_any_1 (P : Program) (w : World) (K : PySem.W.Frag) (mg : Str → Option Value) (base : Heap) : Prop := Cal P w K mg base 3 "_law_any" p__law_any (spG K "left" false fn__law_any_1) [[]] []
abbrev Cal__law_any_2 (P : Program) (w : World) (K : PySem.W.Frag) (mg : Str → Option Value) (base : Heap) : Prop := Cal P w K mg base 4 "_law_any" p__law_any (spG K "left" false fn__law_any_2) [[]] []
abbrev Cal__law_any_3 (P : Program) (w : World) (K : PySem.W.Frag) (mg : Str → Option Value) (base : Heap) : Prop := Cal P w K mg base 5 "_law_any" p__law_any (spG K "left" false fn__law_any_3) [[]] []
abbrev Cal__law_any (P : Program) (w : World) (K : PySem.W.Frag) (mg : Str → Option Value) (base : Heap) : Prop := Cal P w K mg base 5 "_law_any" p__law_any (spG K "left" false fn__law_any) [[]] []
noncomputable def g__law_instead : FS :=
  (fRet (f2 sAdd (f2 sAdd (fSl (fVar 0) fNo (fPart (fVar 1))) (fTup (fCons (fVar 2) fNil))) (fSl (fVar 0) (fPart (f2 sAdd (fVar 1) (fK (.int 1)))) fNo)))
noncomputable def fn__law_instead : Fn := lock fun ds q x => ds.length = 3 ∧ g__law_instead (startD 3 ds) (entry false q x)
theorem fn__law_instead_eq (ds : List D) (q : D → Prop) (x : XD) : fn__law_instead ds q x = (ds.length = 3 ∧ g__law_instead (startD 3 ds) (entry false q x)) := lock_at _ ds q x
abbrev Cal__law_instead (P : Program) (w : World) (K : PySem.W.Frag) (mg : Str → Option Value) (base : Heap) : Prop := Cal P w K mg base 1 "_law_instead" p__law_instead (spN K false fn__law_instead) [[]] []
noncomputable def g__law_bent (rc : Fn) (d : Addr) : FS :=
  (fSeq (fIfS (gOr (gNot (fTest (f1 (sIsi "tuple") (fVar 1)))) (gOr (fTest (f2 (sEq false) (fVar 1) (fTup fNil))) (gOr (fTest (f2 (sEq false) (fVar 2) (fK (.int 0)))) (fTest (f2 (sEq false) (fCallG fn__law_draw d (fCons (fVar 0) (fCons (fK (.int 5)) fNil))) (fK (.int 0)))))))
  (fSeq (fAsg (fCallG fn__law_draw d (fCons (fVar 0) (fCons (fK (.int 14)) fNil))) (fName 3))
  (fSeq (fIfS (fTest (fCall fn__law_is_integer [] (fCons (fVar 1) fNil)))
  (fRet (fCallG fn__law_pick d (fCons (fVar 0) (fCons (fLst (fCons (fK (.int 0)) (fCons (f1 sNeg (fVar 1)) (fCons (f2 sMul (fK (.int 2)) (fVar 1)) (fCons (f2 sAdd (fVar 1) (fK (.int 1))) (fCons (f1 sBool (fVar 1)) (fCons (f1 sStr (fVar 1)) (fCons (fTup (fCons (fVar 1) fNil)) (fCons (fLst (fCons (fVar 1) fNil)) (fCons (fK .non) (fCons (f2 sMul (fK (.int 4)) (fVar 1)) fNil))))))))))) fNil))))
  fSkip)
  (fSeq (fIfS (gOr (fTest (f2 (sEq false) (fVar 3) (fK (.int 0)))) (gNot (fTest (f1 (sIsi "tuple") (fVar 1)))))
  (fRet (fCallG fn__law_any d (fCons (fVar 0) (fCons (fK (.int 2)) fNil))))
  fSkip)
  (fSeq (fIfS (fTest (f2 (sCmp lt') (fVar 3) (fK (.int 4))))
  (fRet (f1 sList (fVar 1)))
  fSkip)
  (fSeq (fIfS (fTest (f2 (sCmp lt') (fVar 3) (fK (.int 6))))
  (fRet (f2 sAdd (fVar 1) (fTup (fCons (fCallG fn__law_pick d (fCons (fVar 0) (fCons (fLst (fCons (fTup fNil) (fCons (fK (.int 0)) (fCons (fTup (fCons (fK (.int 1)) (fCons (fK (.int 1)) (fCons (fK (.int 1)) fNil)))) (fCons (fTup (fCons (fTup (fCons (fK (.int 1)) (fCons (fK (.int 1)) (fCons (fK (.int 1)) fNil)))) fNil)) (fCons (fK .non) (fCons (fK (.bl true)) fNil))))))) fNil))) fNil))))
  fSkip)
  (fSeq (fIfS (fTest (f2 (sCmp lt') (fVar 3) (fK (.int 9))))
  (fSeq (fAsg (f2 (sEq true) (fLc (fIt (fVar 1)) (fName 5) (gAnd (fTest (fCall fn__law_is_integer [] (fCons (fVar 5) fNil))) (fTest (f2 (sCmp gt') (f1 sAbs (fVar 5)) (f2 sPow (fK (.int 10)) (fK (.int 6)))))) (fK (.int 1)) [5]) (fLst fNil)) (fName 4))
  (fRet (fIf (fTest (fVar 4)) (f1 sList (fVar 1)) (f1 sRevT (fVar 1)))))
  fSkip)
  (fSeq (fIfS (fTest (f2 (sCmp lt') (fVar 3) (fK (.int 11))))
  (fRet (f2 sAdd (fVar 1) (fSl (fVar 1) fNo (fPart (fK (.int 1))))))
  fSkip)
  (fRet (fIf (fTest (f2 (sCmp lt') (fVar 3) (fK (.int 13)))) (fSl (fVar 1) (fPart (fK (.int 1))) fNo) (fTup (fCons (fVar 1) fNil)))))))))))
  fSkip)
  (fSeq (fAsg (fCallG fn__law_draw d (fCons (fVar 0) (fCons (f1 sLen (fVar 1)) fNil))) (fName 6))
  (fRet (fCall fn__law_instead [] (fCons (fVar 1) (fCons (fVar 6) (fCons (fCallG rc d (fCons (fVar 0) (fCons (f2 sIx (fVar 1) (fVar 6)) (fCons (f2 sSub (fVar 2) (fK (.int 1))) fNil)))) fNil)))))))
def fn__law_bent_0 : Fn := fun _ _ _ => False
noncomputable def fn__law_bent_1 : Fn := lock fun ds q x => ds.length = 2 ∧ ∀ d, g__law_bent fn__law_bent_0 d (startD 7 (.ref d :: ds)) (entry false q x)
theorem fn__law_bent_1_eq (ds : List D) (q : D → Prop) (x : XD) : fn__law_bent_1 ds q x = (ds.length = 2 ∧ ∀ d, g__law_bent fn__law_bent_0 d (startD 7 (.ref d :: ds)) (entry false q x)) := lock_at _ ds q x
noncomputable def fn__law_bent_2 : Fn := lock fun ds q x => ds.length = 2 ∧ ∀ d, g__law_bent fn__law_bent_1 d (startD 7 (.ref d :: ds)) (entry false q x)
theorem fn__law_bent_2_eq (ds : List D) (q : D → Prop) (x : XD) : fn__law_bent_2 ds q x = (ds.length = 2 ∧ ∀ d, g__law_bent fn__law_bent_1 d (startD 7 (.ref d :: ds)) (entry false q x)) := lock_at _ ds q x
noncomputable abbrev fn__law_bent : Fn := fn__law_bent_2
abbrev Cal__law_bent_0 (P : Program) (w : World) (K : PySem.W.Frag) (mg : Str → Option Value) (base : Heap) : Prop := Cal P w K mg base 5 "_law_bent" p__law_bent (spG K "left" false fn__law_bent_0) [[]] []
abbrev Cal__law_bent_1 (P : Program) (w : World) (K : PySem.W.Frag) (mg : Str → Option Value) (base : Heap) : Prop := Cal P w K mg base 6 "_law_bent" p__law_bent (spG K "left" false fn__law_bent_1) [[]] []
abbrev Cal__law_bent_2 (P : Program) (w : World) (K : PySem.W.Frag) (mg : Str → Option Value) (base : Heap) : Prop := Cal P w K mg base 7 "_law_bent" p__law_bent (spG K "left" false fn__law_bent_2) [[]] []
abbrev Cal__law_bent (P : Program) (w : World) (K : PySem.W.Frag) (mg : Str → Option Value) (base : Heap) : Prop := Cal P w K mg base 7 "_law_bent" p__law_bent (spG K "left" false fn__law_bent) [[]] []
noncomputable def g__law_parted : FS :=
  (fSeq (fPar3 1 2 3 (fCons (fVar 0) (fCons (fK (.int 1)) (fCons (fK (.int 2)) fNil))))
  (fSeq (fWhile (fTest (f2 (sCmp le') (f2 sMul (fVar 3) (fVar 3)) (f1 sAbs (fVar 1))))
  (fSeq (fWhile (fTest (f2 (sEq false) (f2 sMod (f1 sInt (fVar 1)) (f2 sMul (fVar 3) (fVar 3))) (fK (.int 0))))
  (fPar2 1 2 (fCons (f2 sDiv (fVar 1) (f2 sMul (fVar 3) (fVar 3))) (fCons (f2 sMul (fVar 2) (fVar 3)) fNil))))
  (fAsg (f2 sAdd (fVar 3) (fK (.int 1))) (fName 3))))
  (fRet (fTup (fCons (fVar 1) (fCons (fVar 2) fNil))))))
noncomputable def fn__law_parted : Fn := lock fun ds q x => ds.length = 1 ∧ g__law_parted (startD 4 ds) (entry false q x)
theorem fn__law_parted_eq (ds : List D) (q : D → Prop) (x : XD) : fn__law_parted ds q x = (ds.length = 1 ∧ g__law_parted (startD 4 ds) (entry false q x)) := lock_at _ ds q x
abbrev Cal__law_parted (P : Program) (w : World) (K : PySem.W.Frag) (mg : Str → Option Value) (base : Heap) : Prop := Cal P w K mg base 1 "_law_parted" p__law_parted (spN K false fn__law_parted) [[]] []
noncomputable def g__law_made : FS :=
  (fSeq (fIfS (fTest (f2 (sEq false) (fVar 3) (fK (.int 1))))
  (fPar2 0 1 (fCons (f2 sAdd (fVar 0) (fVar 1)) (fCons (fK (.int 0)) fNil)))
  fSkip)
  (fSeq (fAsg (f2 sMul (fCall fn__law_common [] (fCons (fCall fn__law_common [] (fCons (fVar 0) (fCons (fVar 1) fNil))) (fCons (fVar 2) fNil))) (fIf (fTest (f2 (sCmp gt') (fVar 2) (fK (.int 0)))) (fK (.int 1)) (f1 sNeg (fK (.int 1))))) (fName 4))
  (fRet (fTup (fCons (f2 sDiv (fVar 0) (fVar 4)) (fCons (f2 sDiv (fVar 1) (fVar 4)) (fCons (f2 sDiv (fVar 2) (fVar 4)) (fCons (fIf (fTest (f2 (sEq true) (fVar 1) (fK (.int 0)))) (fVar 3) (fK (.int 1))) fNil))))))))
noncomputable def fn__law_made : Fn := lock fun ds q x => ds.length = 4 ∧ g__law_made (startD 5 ds) (entry false q x)
theorem fn__law_made_eq (ds : List D) (q : D → Prop) (x : XD) : fn__law_made ds q x = (ds.length = 4 ∧ g__law_made (startD 5 ds) (entry false q x)) := lock_at _ ds q x
abbrev Cal__law_made (P : Program) (w : World) (K : PySem.W.Frag) (mg : Str → Option Value) (base : Heap) : Prop := Cal P w K mg base 2 "_law_made" p__law_made (spN K false fn__law_made) [[]] []
noncomputable def g__law_fraction : FS :=
  (fRet (fCall fn__law_made [] (fCons (fVar 0) (fCons (fK (.int 0)) (fCons (fVar 1) (fCons (fK (.int 1)) fNil))))))
noncomputable def fn__law_fraction : Fn := lock fun ds q x => ds.length = 2 ∧ g__law_fraction (startD 2 ds) (entry false q x)
theorem fn__law_fraction_eq (ds : List D) (q : D → Prop) (x : XD) : fn__law_fraction ds q x = (ds.length = 2 ∧ g__law_fraction (startD 2 ds) (entry false q x)) := lock_at _ ds q x
abbrev Cal__law_fraction (P : Program) (w : World) (K : PySem.W.Frag) (mg : Str → Option Value) (base : Heap) : Prop := Cal P w K mg base 3 "_law_fraction" p__law_fraction (spN K false fn__law_fraction) [[]] []
noncomputable def g__law_is_number : FS :=
  (fSeq (fIfS (gOr (gNot (fTest (f1 (sIsi "tuple") (fVar 0)))) (gOr (fTest (f2 (sEq true) (f1 sLen (fVar 0)) (fK (.int 4)))) (fTest (f2 (sEq true) (fLc (fIt (fVar 0)) (fName 1) (gNot (fTest (fCall fn__law_is_integer [] (fCons (fVar 1) fNil)))) (fK (.int 1)) [1]) (fLst fNil)))))
  (fRet (fK (.bl false)))
  fSkip)
  (fSeq (fAsg (fVar 0) (fGseq 4 (fGcons (fName 2) (fGcons (fName 3) (fGcons (fName 4) (fGcons (fName 5) fGnil))))))
  (fSeq (fIfS (gOr (fTest (f2 (sCmp lt') (fVar 4) (fK (.int 1)))) (fTest (f2 (sEq true) (fCall fn__law_common [] (fCons (fCall fn__law_common [] (fCons (fVar 2) (fCons (fVar 3) fNil))) (fCons (fVar 4) fNil))) (fK (.int 1)))))
  (fRet (fK (.bl false)))
  fSkip)
  (fRet (fIf (fTest (f2 (sEq false) (fVar 3) (fK (.int 0)))) (f2 (sEq false) (fVar 5) (fK (.int 1))) (hAnd (f2 (sEq true) (fVar 5) (fK (.int 1))) (hAnd (f2 (sCmp le') (f1 sAbs (fVar 5)) (f2 sPow (fK (.int 10)) (fK (.int 12)))) (fCall fn__law_is_lean [] (fCons (fVar 5) fNil)))))))))
noncomputable def fn__law_is_number : Fn := lock fun ds q x => ds.length = 1 ∧ g__law_is_number (startD 6 ds) (entry false q x)
theorem fn__law_is_number_eq (ds : List D) (q : D → Prop) (x : XD) : fn__law_is_number ds q x = (ds.length = 1 ∧ g__law_is_number (startD 6 ds) (entry false q x)) := lock_at _ ds q x
abbrev Cal__law_is_number (P : Program) (w : World) (K : PySem.W.Frag) (mg : Str → Option Value) (base : Heap) : Prop := Cal P w K mg base 2 "_law_is_number" p__law_is_number (spN K false fn__law_is_number) [[]] []
noncomputable def g__law_asked : FS :=
  (fTry errL (fSeq (fIfS (fTest (f2 (sEq false) (f1 sLen (fVar 0)) (fK (.int 2))))
  (fRet (fTup (fCons (fK (.str "told")) (fCons (fIf (fTest (f2 (sEq false) (fVar 1) (fK (.int 0)))) (fCall fn_root_of [] (fCons (f2 sIx (fVar 0) (fK (.int 0))) (fCons (f2 sIx (fVar 0) (fK (.int 1))) fNil))) (fCallK fn_root_of 0 2 [1, 0] fNil (fCons (f2 sIx (fVar 0) (fK (.int 1))) (fCons (f2 sIx (fVar 0) (fK (.int 0))) fNil)))) fNil))))
  fSkip)
  (fSeq (fAsg (fVar 0) (fGseq 4 (fGcons (fName 2) (fGcons (fName 3) (fGcons (fName 4) (fGcons (fName 5) fGnil))))))
  (fRet (fTup (fCons (fK (.str "told")) (fCons (fIf (fTest (f2 (sEq false) (fVar 1) (fK (.int 0)))) (fCall fn_number_of [] (fCons (fVar 2) (fCons (fVar 3) (fCons (fVar 4) (fCons (fVar 5) fNil))))) (fCallK fn_number_of 0 4 [3, 2, 1, 0] fNil (fCons (fVar 5) (fCons (fVar 4) (fCons (fVar 3) (fCons (fVar 2) fNil)))))) fNil)))))) [(fun n => isErr n "BadNumber", fun n t => (.tup [(.str "bad"), t, (.bl (isErr n "StepError"))]))])
noncomputable def fn__law_asked : Fn := lock fun ds q x => ds.length = 2 ∧ g__law_asked (startD 7 ds) (entry false q x)
theorem fn__law_asked_eq (ds : List D) (q : D → Prop) (x : XD) : fn__law_asked ds q x = (ds.length = 2 ∧ g__law_asked (startD 7 ds) (entry false q x)) := lock_at _ ds q x
abbrev Cal__law_asked (P : Program) (w : World) (K : PySem.W.Frag) (mg : Str → Option Value) (base : Heap) : Prop := Cal P w K mg base 6 "_law_asked" p__law_asked (spN K false fn__law_asked) [[]] []
noncomputable def g__law_due : FS :=
  (fSeq (fIfS (gOr (fTest (f2 (sEq true) (fLc (fIt (fVar 0)) (fName 1) (gNot (fTest (fCall fn__law_is_integer [] (fCons (fVar 1) fNil)))) (fK (.int 1)) [1]) (fLst fNil))) (gOr (fTest (f2 (sEq false) (f2 sIx (fVar 0) (f1 sNeg (fK (.int 1)))) (fK (.int 0)))) (gAnd (fTest (f2 (sEq false) (f1 sLen (fVar 0)) (fK (.int 4)))) (fTest (f2 (sEq false) (f2 sIx (fVar 0) (fK (.int 2))) (fK (.int 0)))))))
  (fRet (fTup (fCons (fK (.str "bad")) (fCons (fVar 0) (fCons (fK (.bl true)) fNil)))))
  fSkip)
  (fSeq (fIfS (fTest (f2 (sEq false) (f1 sLen (fVar 0)) (fK (.int 4))))
  (fSeq (fAsg (fCall fn__law_parted [] (fCons (f2 sIx (fVar 0) (fK (.int 3))) fNil)) (fGseq 2 (fGcons (fName 2) (fGcons (fName 3) fGnil))))
  (fRet (fTup (fCons (fK (.str "told")) (fCons (fCall fn__law_made [] (fCons (f2 sIx (fVar 0) (fK (.int 0))) (fCons (f2 sMul (f2 sIx (fVar 0) (fK (.int 1))) (fVar 3)) (fCons (f2 sIx (fVar 0) (fK (.int 2))) (fCons (fVar 2) fNil))))) fNil)))))
  fSkip)
  (fSeq (fAsg (fVar 0) (fGseq 2 (fGcons (fName 4) (fGcons (fName 5) fGnil))))
  (fSeq (fIfS (fTest (f2 (sEq false) (fVar 4) (fK (.int 0))))
  (fRet (fTup (fCons (fK (.str "told")) (fCons (fTup (fCons (fK (.int 0)) (fCons (fK (.int 0)) (fCons (fK (.int 1)) (fCons (fK (.int 1)) fNil))))) fNil))))
  fSkip)
  (fSeq (fAsg (fCall fn__law_parted [] (fCons (f2 sMul (fVar 4) (fVar 5)) fNil)) (fGseq 2 (fGcons (fName 2) (fGcons (fName 3) fGnil))))
  (fRet (fTup (fCons (fK (.str "told")) (fCons (fCall fn__law_made [] (fCons (fK (.int 0)) (fCons (fVar 3) (fCons (f1 sAbs (fVar 5)) (fCons (fVar 2) fNil))))) fNil)))))))))
noncomputable def fn__law_due : Fn := lock fun ds q x => ds.length = 1 ∧ g__law_due (startD 6 ds) (entry false q x)
theorem fn__law_due_eq (ds : List D) (q : D → Prop) (x : XD) : fn__law_due ds q x = (ds.length = 1 ∧ g__law_due (startD 6 ds) (entry false q x)) := lock_at _ ds q x
abbrev Cal__law_due (P : Program) (w : World) (K : PySem.W.Frag) (mg : Str → Option Value) (base : Heap) : Prop := Cal P w K mg base 3 "_law_due" p__law_due (spN K false fn__law_due) [[]] []
noncomputable def g__law_wide (d : Addr) : FS :=
  (fSeq (fAsg (fCallG fn__law_pick d (fCons (fVar 0) (fCons (fLst (fCons (fK (.int 9)) (fCons (fK (.int 9)) (fCons (fK (.int 100)) (fCons (f2 sPow (fK (.int 10)) (fK (.int 8))) (fCons (f2 sPow (fK (.int 10)) (fK (.int 29))) fNil)))))) fNil))) (fName 1))
  (fSeq (fPar2 2 3 (fCons (f2 sMul (fCallG fn__law_great d (fCons (fVar 0) (fCons (fVar 1) fNil))) (fCallG fn__law_pick d (fCons (fVar 0) (fCons (fLst (fCons (fK (.int 1)) (fCons (f1 sNeg (fK (.int 1))) fNil))) fNil)))) (fCons (f2 sMul (fCallG fn__law_great d (fCons (fVar 0) (fCons (fVar 1) fNil))) (fCallG fn__law_pick d (fCons (fVar 0) (fCons (fLst (fCons (fK (.int 1)) (fCons (f1 sNeg (fK (.int 1))) (fCons (fK (.int 0)) fNil)))) fNil)))) fNil)))
  (fSeq (fAsg (f2 sMul (f2 sAdd (fK (.int 1)) (fCallG fn__law_great d (fCons (fVar 0) (fCons (fCallG fn__law_pick d (fCons (fVar 0) (fCons (fLst (fCons (fK (.int 1)) (fCons (fK (.int 3)) (fCons (fK (.int 12)) (fCons (fVar 1) fNil))))) fNil))) fNil)))) (fCallG fn__law_pick d (fCons (fVar 0) (fCons (fLst (fCons (fK (.int 1)) (fCons (fK (.int 1)) (fCons (f1 sNeg (fK (.int 1))) fNil)))) fNil)))) (fName 4))
  (fSeq (fPar2 5 6 (fCons (f2 sAdd (fK (.int 1)) (fCallG fn__law_draw d (fCons (fVar 0) (fCons (fCallG fn__law_pick d (fCons (fVar 0) (fCons (fLst (fCons (fK (.int 1)) (fCons (fK (.int 9)) (fCons (fK (.int 100)) (fCons (f2 sPow (fK (.int 10)) (fK (.int 4))) fNil))))) fNil))) fNil)))) (fCons (f2 sAdd (fK (.int 1)) (fCallG fn__law_draw d (fCons (fVar 0) (fCons (fCallG fn__law_pick d (fCons (fVar 0) (fCons (fLst (fCons (fK (.int 1)) (fCons (fK (.int 4)) (fCons (fK (.int 100)) fNil)))) fNil))) fNil)))) fNil)))
  (fSeq (fAsg (f2 sAdd (fK (.int 1)) (fCallG fn__law_draw d (fCons (fVar 0) (fCons (fK (.int 6)) fNil)))) (fName 7))
  (fRet (fTup (fCons (f2 sMul (fVar 2) (fVar 7)) (fCons (f2 sMul (fVar 3) (fVar 7)) (fCons (f2 sMul (fVar 4) (fVar 7)) (fCons (f2 sMul (f2 sMul (f2 sMul (fVar 5) (fVar 6)) (fVar 6)) (fCallG fn__law_pick d (fCons (fVar 0) (fCons (fLst (fCons (fK (.int 1)) (fCons (fK (.int 1)) (fCons (f1 sNeg (fK (.int 1))) fNil)))) fNil)))) fNil)))))))))))
noncomputable def fn__law_wide : Fn := lock fun ds q x => ds.length = 0 ∧ ∀ d, g__law_wide d (startD 8 (.ref d :: ds)) (entry false q x)
theorem fn__law_wide_eq (ds : List D) (q : D → Prop) (x : XD) : fn__law_wide ds q x = (ds.length = 0 ∧ ∀ d, g__law_wide d (startD 8 (.ref d :: ds)) (entry false q x)) := lock_at _ ds q x
abbrev Cal__law_wide (P : Program) (w : World) (K : PySem.W.Frag) (mg : Str → Option Value) (base : Heap) : Prop := Cal P w K mg base 3 "_law_wide" p__law_wide (spG K "left" false fn__law_wide) [[]] []
noncomputable def g__law_are_squares_right (d : Addr) : FS :=
  (fSeq (fAsg (fCallG fn__law_pick d (fCons (fVar 0) (fCons (fLst (fCons (fK (.int 10007)) (fCons (fK (.int 1009)) (fCons (fK (.int 4001)) (fCons (fIf (fTest (f2 (sEq false) (fCallG fn__law_draw d (fCons (fVar 0) (fCons (fK (.int 4)) fNil))) (fK (.int 0)))) (fK (.int 31607)) (fK (.int 2003))) (fCons (fIf (fTest (f2 (sEq false) (fCallG fn__law_draw d (fCons (fVar 0) (fCons (fK (.int 20)) fNil))) (fK (.int 0)))) (fK (.int 99991)) (fK (.int 10009))) fNil)))))) fNil))) (fName 1))
  (fSeq (fAsg (fIf (fTest (f2 (sEq false) (fCallG fn__law_draw d (fCons (fVar 0) (fCons (fK (.int 400)) fNil))) (fK (.int 0)))) (fK (.int 999983)) (fVar 1)) (fName 1))
  (fSeq (fAsg (fCallG fn__law_pick d (fCons (fVar 0) (fCons (fIf (fTest (f2 (sCmp lt') (fVar 1) (fK (.int 40000)))) (fLst (fCons (fK (.int 1)) (fCons (f1 sNeg (fK (.int 1))) (fCons (fK (.int 2)) (fCons (f1 sNeg (fK (.int 3))) (fCons (fK (.int 30)) fNil)))))) (fLst (fCons (fK (.int 1)) (fCons (f1 sNeg (fK (.int 1))) fNil)))) fNil))) (fName 2))
  (fSeq (fAsg (fTup (fCons (fCallG fn__law_near d (fCons (fVar 0) (fCons (fK (.int 40)) fNil))) (fCons (fCallG fn__law_near d (fCons (fVar 0) (fCons (fK (.int 9)) fNil))) (fCons (f2 sAdd (fK (.int 1)) (fCallG fn__law_draw d (fCons (fVar 0) (fCons (fK (.int 6)) fNil)))) (fCons (f2 sMul (f2 sMul (fVar 1) (fVar 1)) (fVar 2)) fNil))))) (fGseq 4 (fGcons (fName 3) (fGcons (fName 4) (fGcons (fName 5) (fGcons (fName 6) fGnil))))))
  (fSeq (fAsg (fCall fn__law_made [] (fCons (fVar 3) (fCons (f2 sMul (fVar 4) (fVar 1)) (fCons (fVar 5) (fCons (fVar 2) fNil))))) (fName 7))
  (fSeq (fIfS (gOr (fTest (f2 (sEq true) (f1 sReprT (fCall0 fn_number_of [] (fCons (fVar 3) (fCons (fVar 4) (fCons (fVar 5) (fCons (fVar 6) fNil)))))) (f1 sReprT (fVar 7)))) (fTest (f2 (sIs2 true) (fCall fn_is_number [] (fCons (fTup (fCons (fK (.int 0)) (fCons (fK (.int 1)) (fCons (fK (.int 1)) (fCons (fVar 6) fNil))))) fNil)) (fK (.bl false)))))
  (fRet (fK (.bl false)))
  fSkip)
  (fSeq (fAsg (fCallG fn__law_pick d (fCons (fVar 0) (fCons (fLst (fCons (fK (.int 997)) (fCons (fK (.int 991)) (fCons (fK (.int 31)) (fCons (fK (.int 503)) fNil))))) fNil))) (fName 8))
  (fSeq (fAsg (fCallG fn__law_pick d (fCons (fVar 0) (fCons (fLst (fCons (f2 sAdd (f2 sPow (fK (.int 10)) (fK (.int 12))) (fK (.int 1))) (fCons (f2 sSub (f1 sNeg (f2 sPow (fK (.int 10)) (fK (.int 12)))) (fK (.int 1))) (fCons (f2 sAdd (f2 sPow (fK (.int 10)) (fK (.int 39))) (fK (.int 3))) (fCons (f2 sSub (f1 sNeg (f2 sPow (fK (.int 10)) (fK (.int 39)))) (fK (.int 1))) (fCons (f2 sAdd (f2 sPow (fK (.int 10)) (fK (.int 12))) (fK (.int 4))) fNil)))))) fNil))) (fName 9))
  (fSeq (fAsg (fTup (fCons (fCall0 fn_root_of [] (fCons (f2 sMul (fVar 8) (fVar 8)) (fCons (fK (.int 1)) fNil))) (fCons (fCallK0 fn_root_of 0 2 [1, 0] fNil (fCons (f2 sMul (fVar 8) (fVar 8)) (fCons (fK (.int 1)) fNil))) (fCons (fCall fn_is_number [] (fCons (fTup (fCons (fK (.int 0)) (fCons (fK (.int 1)) (fCons (fK (.int 1)) (fCons (fVar 9) fNil))))) fNil)) (fCons (fCall fn_is_number [] (fCons (fTup (fCons (fVar 3) (fCons (fK (.int 1)) (fCons (fK (.int 1)) (fCons (fVar 9) fNil))))) fNil)) fNil))))) (fName 10))
  (fRet (f2 (sEq false) (f1 sReprT (fVar 10)) (f1 sReprT (fTup (fCons (fTup (fCons (fVar 8) (fCons (fK (.int 0)) (fCons (fK (.int 1)) (fCons (fK (.int 1)) fNil))))) (fCons (fTup (fCons (fK (.int 1)) (fCons (fK (.int 0)) (fCons (fVar 8) (fCons (fK (.int 1)) fNil))))) (fCons (fK (.bl false)) (fCons (fK (.bl false)) fNil)))))))))))))))))
noncomputable def fn__law_are_squares_right : Fn := lock fun ds q x => ds.length = 0 ∧ ∀ d, g__law_are_squares_right d (startD 11 (.ref d :: ds)) (entry false q x)
theorem fn__law_are_squares_right_eq (ds : List D) (q : D → Prop) (x : XD) : fn__law_are_squares_right ds q x = (ds.length = 0 ∧ ∀ d, g__law_are_squares_right d (startD 11 (.ref d :: ds)) (entry false q x)) := lock_at _ ds q x
abbrev Cal__law_are_squares_right (P : Program) (w : World) (K : PySem.W.Frag) (mg : Str → Option Value) (base : Heap) : Prop := Cal P w K mg base 6 "_law_are_squares_right" p__law_are_squares_right (spG K "left" false fn__law_are_squares_right) [[]] []
noncomputable def g__law_for_root (d : Addr) : FS :=
  (fSeq (fAsg (fCallG fn__law_pick d (fCons (fVar 0) (fCons (fLst (fCons (fK (.int 9)) (fCons (fK (.int 100)) (fCons (fK (.int 999)) (fCons (fK (.int 30)) fNil))))) fNil))) (fName 1))
  (fSeq (fPar2 2 3 (fCons (f2 sAdd (fK (.int 1)) (fCallG fn__law_draw d (fCons (fVar 0) (fCons (fK (.int 9)) fNil)))) (fCons (f2 sAdd (fK (.int 1)) (fCallG fn__law_draw d (fCons (fVar 0) (fCons (fK (.int 9)) fNil)))) fNil)))
  (fRet (fTup (fCons (f2 sMul (f2 sMul (fCallG fn__law_near d (fCons (fVar 0) (fCons (fVar 1) fNil))) (fVar 2)) (fVar 2)) (fCons (f2 sMul (f2 sMul (f2 sMul (f2 sAdd (fK (.int 1)) (fCallG fn__law_draw d (fCons (fVar 0) (fCons (fVar 1) fNil)))) (fVar 3)) (fVar 3)) (fCallG fn__law_pick d (fCons (fVar 0) (fCons (fLst (fCons (fK (.int 1)) (fCons (fK (.int 1)) (fCons (f1 sNeg (fK (.int 1))) fNil)))) fNil)))) fNil))))))
noncomputable def fn__law_for_root : Fn := lock fun ds q x => ds.length = 0 ∧ ∀ d, g__law_for_root d (startD 4 (.ref d :: ds)) (entry false q x)
theorem fn__law_for_root_eq (ds : List D) (q : D → Prop) (x : XD) : fn__law_for_root ds q x = (ds.length = 0 ∧ ∀ d, g__law_for_root d (startD 4 (.ref d :: ds)) (entry false q x)) := lock_at _ ds q x
abbrev Cal__law_for_root (P : Program) (w : World) (K : PySem.W.Frag) (mg : Str → Option Value) (base : Heap) : Prop := Cal P w K mg base 3 "_law_for_root" p__law_for_root (spG K "left" false fn__law_for_root) [[]] []
noncomputable def g_law (d : Addr) : FS :=
  (fSeq (fIfS (gNot (fTest (fCallG fn__law_are_squares_right d (fCons (fVar 1) fNil))))
  (fRet (fK (.bl false)))
  fSkip)
  (fSeq (fFor (fRg1 (fK (.int 4))) (fName 2)
  (fSeq (fAsg (fCallG fn__law_wide d (fCons (fVar 1) fNil)) (fName 3))
  (fSeq (fAsg (f2 sIx (fCall fn__law_due [] (fCons (fVar 3) fNil)) (fK (.int 1))) (fName 4))
  (fSeq (fIfS (gOr (fTest (f2 (sEq true) (f1 sReprT (fTup (fCons (fCall fn__law_asked [] (fCons (fVar 3) (fCons (fK (.int 0)) fNil))) (fCons (fCall fn__law_asked [] (fCons (fVar 3) (fCons (fK (.int 1)) fNil))) fNil)))) (f1 sReprT (f2 sRepT (fTup (fCons (fCall fn__law_due [] (fCons (fVar 3) fNil)) fNil)) (fK (.int 2)))))) (fTest (f2 (sIs2 true) (fCall fn_is_number [] (fCons (fVar 4) fNil)) (fK (.bl true)))))
  (fRet (fK (.bl false)))
  fSkip)
  (fSeq (fAsg (fCallG fn__law_for_root d (fCons (fVar 1) fNil)) (fName 5))
  (fSeq (fAsg (fCall fn__law_asked [] (fCons (fVar 5) (fCons (fCallG fn__law_draw d (fCons (fVar 1) (fCons (fK (.int 2)) fNil))) fNil))) (fName 6))
  (fSeq (fIfS (gOr (fTest (f2 (sEq true) (f1 sReprT (fVar 6)) (f1 sReprT (fCall fn__law_due [] (fCons (fVar 5) fNil))))) (fTest (f2 (sEq true) (f1 sReprT (fCall0 fn_times [] (fCons (f2 sIx (fVar 6) (fK (.int 1))) (fCons (f2 sIx (fVar 6) (fK (.int 1))) fNil)))) (f1 sReprT (fCall fn__law_fraction [] (fCons (f2 sIx (fVar 5) (fK (.int 0))) (fCons (f2 sIx (fVar 5) (fK (.int 1))) fNil)))))))
  (fRet (fK (.bl false)))
  fSkip)
  (fSeq (fPar2 7 8 (fCons (fCallG fn__law_draw d (fCons (fVar 1) (fCons (fK (.int 4)) fNil))) (fCons (fCallG fn__law_pick d (fCons (fVar 1) (fCons (fLst (fCons (fK (.int 0)) (fCons (fK .non) (fCons (fK (.bl true)) (fCons (fK (.str "1")) (fCons (fCallG fn__law_any d (fCons (fVar 1) (fCons (fK (.int 2)) fNil))) (fCons (fTup (fCons (fK (.int 1)) fNil)) (fCons (fLst (fCons (fK (.int 2)) fNil)) fNil)))))))) fNil))) fNil)))
  (fSeq (fFor (fIt (fTup (fCons (fCall fn__law_instead [] (fCons (fVar 3) (fCons (fVar 7) (fCons (fVar 8) fNil)))) (fCons (fCall fn__law_instead [] (fCons (fVar 5) (fCons (fCallG fn__law_draw d (fCons (fVar 1) (fCons (fK (.int 2)) fNil))) (fCons (fVar 8) fNil)))) (fCons (fTup (fCons (fVar 8) (fCons (fVar 8) fNil))) fNil))))) (fName 9)
  (fIfS (gAnd (fTest (f2 (sEq false) (f2 sIx (fCall fn__law_due [] (fCons (fVar 9) fNil)) (fK (.int 0))) (fK (.str "bad")))) (fTest (f2 (sEq true) (f1 sReprT (fCall fn__law_asked [] (fCons (fVar 9) (fCons (fCallG fn__law_draw d (fCons (fVar 1) (fCons (fK (.int 2)) fNil))) fNil)))) (f1 sReprT (fCall fn__law_due [] (fCons (fVar 9) fNil))))))
  (fRet (fK (.bl false)))
  fSkip))
  (fFor (fIt (fTup (fCons (fCallG fn__law_bent d (fCons (fVar 1) (fCons (fVar 4) (fCons (fK (.int 1)) fNil)))) (fCons (fVar 3) (fCons (fCallG fn__law_any d (fCons (fVar 1) (fCons (fK (.int 2)) fNil))) (fCons (f2 sAdd (fSl (fVar 4) fNo (fPart (fK (.int 3)))) (fTup (fCons (fVar 8) fNil))) fNil)))))) (fName 10)
  (fIfS (fTest (f2 (sEq true) (f1 sReprT (fTup (fCons (fCall fn_is_number [] (fCons (fVar 10) fNil)) (fCons (fCallK fn_is_number 0 1 [0] fNil (fCons (fVar 10) fNil)) fNil)))) (f1 sReprT (f2 sRepT (fTup (fCons (fCall fn__law_is_number [] (fCons (fVar 10) fNil)) fNil)) (fK (.int 2))))))
  (fRet (fK (.bl false)))
  fSkip)))))))))))
  (fRet (fK (.bl true)))))
abbrev Cal_law (P : Program) (w : World) (K : PySem.W.Frag) (mg : Str → Option Value) (base : Heap) : Prop := Cal P w K mg base 8 "law" p_law (spLaw K) [[]] []
section
variable {P : Program} {w : World} {K : PySem.W.Frag} {mg : Str → Option Value} {base : Heap} {f : Addr} {fd : FuncData}
theorem ok_is_whole (F : FnP K "is_whole" (top 8) [] f fd) (T : Txt K mg)  : FnG P w K mg base CX0 1 f fd p_is_whole (spN K false fn_is_whole) :=
  okN F sc_is_whole (fun ds q x h => ((fn_is_whole_eq ds q x).mp h).1) fun cdv A outer s H E hr hG => ⟨[], g_is_whole, (dss_one (ds_ret (de_and (de_isi (T := "int") (by rfl) T.n_isinstance (by rfl) T.n_int (by decide +kernel) (db_of (pv 0)) isi_int) (de_one (de_not (de_isi (T := "bool") (by rfl) T.n_isinstance (by rfl) T.n_bool (by decide +kernel) (db_of (pv 0)) isi_bool)))))), fun ds q x h => ((fn_is_whole_eq ds q x).mp h).2⟩
theorem ok_square_root (F : FnP K "square_root" (top 9) [] f fd) (T : Txt K mg)  : FnG P w K mg base CX0 1 f fd p_square_root (spN K false fn_square_root) :=
  okN F sc_square_root (fun ds q x h => ((fn_square_root_eq ds q x).mp h).1) fun cdv A outer s H E hr hG => ⟨[], g_square_root, (dss_cons (ds_par2 (i := 1) (j := 2) rfl sc_square_root.nd rfl rfl rfl rfl (da_cons (de_of (pv 0)) (da_cons (de_div (DE.toB (de_add (db_of (pv 0)) (de_int).toB)) (de_int).toB) da_nil)))
  (dss_cons (ds_while PassesOwn.never (dt_cmp cd_lt (db_of (pv 2)) (db_of (pv 1)))
  (dss_cons (ds_set (i := 1) sc_square_root.nd rfl (by first | exact .inl rfl | exact .inr rfl) (de_of (pv 2)))
  (dss_one (ds_set (i := 2) sc_square_root.nd rfl (by first | exact .inl rfl | exact .inr rfl) (de_div (DE.toB (de_add (db_of (pv 1)) (DE.toB (de_div (db_of (pv 0)) (db_of (pv 1)))))) (de_int).toB)))))
  (dss_one (ds_ret (de_of (pv 1)))))), fun ds q x h => ((fn_square_root_eq ds q x).mp h).2⟩
theorem ok_square_parts (F : FnP K "square_parts" (top 10) [] f fd) (T : Txt K mg) (C_square_root : Cal_square_root P w K mg base) : FnG P w K mg base CX0 2 f fd p_square_parts (spN K false fn_square_parts) :=
  okN F sc_square_parts (fun ds q x h => ((fn_square_parts_eq ds q x).mp h).1) fun cdv A outer s H E hr hG => ⟨[], g_square_parts, (dss_cons (ds_asg (de_tup (da_cons (de_abs (by rfl) T.n_abs (db_of (pv 0))) (da_cons de_int (da_cons (de_if (dt_cmp cd_gt (db_of (pv 0)) (de_int).toB) de_int (de_neg (de_int).toB)) (da_cons de_int da_nil))))) (dg_seq rfl (dgs_cons (dg_name (i := 1) sc_square_parts.nd rfl (by first | exact .inl rfl | exact .inr rfl)) (dgs_cons (dg_name (i := 2) sc_square_parts.nd rfl (by first | exact .inl rfl | exact .inr rfl)) (dgs_cons (dg_name (i := 3) sc_square_parts.nd rfl (by first | exact .inl rfl | exact .inr rfl)) (dgs_cons (dg_name (i := 4) sc_square_parts.nd rfl (by first | exact .inl rfl | exact .inr rfl)) dgs_nil))))))
  (dss_cons (ds_while PassesOwn.never (dt_cmp cd_le (DE.toB (de_mul (DE.toB (de_mul (db_of (pv 4)) (db_of (pv 4)))) (db_of (pv 4)))) (db_of (pv 1)))
  (dss_cons (ds_while PassesOwn.never (dt_cmp (cd_eq hr.units) (DE.toB (de_mod (db_of (pv 1)) (DE.toB (de_mul (db_of (pv 4)) (db_of (pv 4)))))) (de_int).toB)
  (dss_one (ds_par2 (i := 1) (j := 2) rfl sc_square_parts.nd rfl rfl rfl rfl (da_cons (de_div (db_of (pv 1)) (DE.toB (de_mul (db_of (pv 4)) (db_of (pv 4))))) (da_cons (de_mul (db_of (pv 2)) (db_of (pv 4))) da_nil)))))
  (dss_cons (ds_if (dt_cmp (cd_eq hr.units) (DE.toB (de_mod (db_of (pv 1)) (db_of (pv 4)))) (de_int).toB)
  (dss_one (ds_par2 (i := 1) (j := 3) rfl sc_square_parts.nd rfl rfl rfl rfl (da_cons (de_div (db_of (pv 1)) (db_of (pv 4))) (da_cons (de_mul (db_of (pv 3)) (db_of (pv 4))) da_nil))))
  dss_nil)
  (dss_one (ds_aug (i := 4) sc_square_parts.nd rfl (by first | exact .inl rfl | exact .inr rfl) ip_add rfl de_int)))))
  (dss_cons (ds_set (i := 5) sc_square_parts.nd rfl (by first | exact .inl rfl | exact .inr rfl) (cal_N C_square_root hr hG (by rfl) 0 (da_cons (de_of (pv 1)) da_nil)))
  (dss_cons (ds_if (dt_cmp (cd_eq hr.units) (DE.toB (de_mul (db_of (pv 5)) (db_of (pv 5)))) (db_of (pv 1)))
  (dss_one (ds_ret (de_tup (da_cons (de_mul (db_of (pv 2)) (db_of (pv 5))) (da_cons (de_of (pv 3)) da_nil)))))
  dss_nil)
  (dss_one (ds_ret (de_tup (da_cons (de_of (pv 2)) (da_cons (de_mul (db_of (pv 3)) (db_of (pv 1))) da_nil))))))))), fun ds q x h => ((fn_square_parts_eq ds q x).mp h).2⟩
theorem ok_is_squarefree (F : FnP K "is_squarefree" (top 11) [] f fd) (T : Txt K mg) (C_square_parts : Cal_square_parts P w K mg base) : FnG P w K mg base CX0 3 f fd p_is_squarefree (spN K false fn_is_squarefree) :=
  okN F sc_is_squarefree (fun ds q x h => ((fn_is_squarefree_eq ds q x).mp h).1) fun cdv A outer s H E hr hG => ⟨[], g_is_squarefree, (dss_one (ds_ret (de_and (de_cmp (cd_ne hr.units) (db_of (pv 0)) (de_int).toB) (de_and (de_cmp cd_le (DE.toB (de_abs (by rfl) T.n_abs (db_of (pv 0)))) (DE.toB (de_con (by rfl) T.c_MOST_SQUAREFREE))) (de_one (de_cmp (cd_eq hr.units) (DE.toB (de_ix (DE.toB (cal_N C_square_parts hr hG (by rfl) 0 (da_cons (de_of (pv 0)) da_nil))) (de_int).toB)) (de_int).toB)))))), fun ds q x h => ((fn_is_squarefree_eq ds q x).mp h).2⟩
theorem ok_is_number_value (F : FnP K "is_number_value" (top 12) [] f fd) (T : Txt K mg) (C_is_squarefree : Cal_is_squarefree P w K mg base) (C_is_whole : Cal_is_whole P w K mg base) : FnG P w K mg base CX0 4 f fd p_is_number_value (spN K false fn_is_number_value) :=
  okN F sc_is_number_value (fun ds q x h => ((fn_is_number_value_eq ds q x).mp h).1) fun cdv A outer s H E hr hG => ⟨[], g_is_number_value, (dss_cons (ds_if (dw_pt (dw_or (dt_not (dt_val (de_isi (T := "tuple") (by rfl) T.n_isinstance (by rfl) T.n_tuple (by decide +kernel) (db_of (pv 0)) isi_tuple))) (dw_or (dt_cmp (cd_ne hr.units) (DE.toB (de_len (by rfl) T.n_len (db_of (pv 0)))) (de_int).toB) (dw_or1 (dt_not (dt_val (de_all rfl (by rfl) T.n_all (DE.toB (DF.toE (df_lc (own := [("item", 1)]) rfl sc_is_number_value.nd (di_seq (de_of (pv 0))) (blkOk_by (by rfl)) (fun _ _ _ _ _ => (dgw_name (i := 1) sc_is_number_value.nd rfl (by first | exact .inl rfl | exact .inr rfl) (by first | exact .inl rfl | exact .inr rfl))) (fun _ _ _ _ _ => dts_nil) (fun _ _ _ _ _ => (cal_N C_is_whole hr hG (by rfl) 0 (da_cons (de_of (pv 1)) da_nil)))))))))))))
  (dss_one (ds_ret de_bl))
  dss_nil)
  (dss_cons (ds_asg (de_of (pv 0)) (dg_seq rfl (dgs_cons (dg_name (i := 2) sc_is_number_value.nd rfl (by first | exact .inl rfl | exact .inr rfl)) (dgs_cons (dg_name (i := 3) sc_is_number_value.nd rfl (by first | exact .inl rfl | exact .inr rfl)) (dgs_cons (dg_name (i := 4) sc_is_number_value.nd rfl (by first | exact .inl rfl | exact .inr rfl)) (dgs_cons (dg_name (i := 5) sc_is_number_value.nd rfl (by first | exact .inl rfl | exact .inr rfl)) dgs_nil))))))
  (dss_cons (ds_if (dw_pt (dw_or (dt_cmp cd_lt (db_of (pv 4)) (de_int).toB) (dw_or1 (dt_cmp (cd_ne hr.units) (DE.toB (de_gcd (by rfl) T.m_gcd (DE.toB (de_gcd (by rfl) T.m_gcd (db_of (pv 2)) (db_of (pv 3)))) (db_of (pv 4)))) (de_int).toB))))
  (dss_one (ds_ret de_bl))
  dss_nil)
  (dss_one (ds_ret (de_if (dt_cmp (cd_eq hr.units) (db_of (pv 3)) (de_int).toB) (de_cmp (cd_eq hr.units) (db_of (pv 5)) (de_int).toB) (de_and (de_cmp (cd_ne hr.units) (db_of (pv 5)) (de_int).toB) (de_one (cal_N C_is_squarefree hr hG (by rfl) 0 (da_cons (de_of (pv 5)) da_nil)))))))))), fun ds q x h => ((fn_is_number_value_eq ds q x).mp h).2⟩
theorem ok_need_number (F : FnP K "need_number" (top 13) [] f fd) (T : Txt K mg) (C_is_number_value : Cal_is_number_value P w K mg base) (M_BadNumber : Mkr P w K mg base "BadNumber") : FnG P w K mg base (L2.CX P w) 5 f fd p_need_number (spN K false fn_need_number) :=
  okNx F sc_need_number (fun ds q x h => ((fn_need_number_eq ds q x).mp h).1) fun cdv A outer s H E hr hG tk hp => ⟨[], g_need_number, (dss_one (ds_if (dt_not (dt_val (cal_N C_is_number_value hr hG (by rfl) 0 (da_cons (de_of (pv 0)) da_nil))))
  (dss_one (ds_raise rfl tk M_BadNumber hr hG (by rfl) (de_of (pv 0))))
  dss_nil)), fun ds q x h => ((fn_need_number_eq ds q x).mp h).2⟩
theorem ok_lowered (F : FnP K "lowered" (top 14) [] f fd) (T : Txt K mg)  : FnG P w K mg base CX0 1 f fd p_lowered (spN K false fn_lowered) :=
  okN F sc_lowered (fun ds q x h => ((fn_lowered_eq ds q x).mp h).1) fun cdv A outer s H E hr hG => ⟨[], g_lowered, (dss_cons (ds_set (i := 4) sc_lowered.nd rfl (by first | exact .inl rfl | exact .inr rfl) (de_if (dt_cmp cd_gt (db_of (pv 2)) (de_int).toB) (de_gcd (by rfl) T.m_gcd (DE.toB (de_gcd (by rfl) T.m_gcd (db_of (pv 0)) (db_of (pv 1)))) (db_of (pv 2))) (de_sub (de_int).toB (DE.toB (de_gcd (by rfl) T.m_gcd (DE.toB (de_gcd (by rfl) T.m_gcd (db_of (pv 0)) (db_of (pv 1)))) (db_of (pv 2)))))))
  (dss_one (ds_ret (de_tup (da_cons (de_div (db_of (pv 0)) (db_of (pv 4))) (da_cons (de_div (db_of (pv 1)) (db_of (pv 4))) (da_cons (de_div (db_of (pv 2)) (db_of (pv 4))) (da_cons (de_if (dt_cmp (cd_ne hr.units) (db_of (pv 1)) (de_int).toB) (de_of (pv 3)) de_int) da_nil)))))))), fun ds q x h => ((fn_lowered_eq ds q x).mp h).2⟩
theorem ok_num_made (F : FnP K "num_made" (top 15) [] f fd) (T : Txt K mg) (C_lowered : Cal_lowered P w K mg base) (C_square_parts : Cal_square_parts P w K mg base) : FnG P w K mg base CX0 3 f fd p_num_made (spN K false fn_num_made) :=
  okN F sc_num_made (fun ds q x h => ((fn_num_made_eq ds q x).mp h).1) fun cdv A outer s H E hr hG => ⟨[], g_num_made, (dss_cons (ds_if (dt_cmp (cd_eq hr.units) (db_of (pv 1)) (de_int).toB)
  (dss_one (ds_ret (cal_N C_lowered hr hG (by rfl) 0 (da_cons (de_of (pv 0)) (da_cons de_int (da_cons (de_of (pv 2)) (da_cons de_int da_nil)))))))
  dss_nil)
  (dss_cons (ds_asg (cal_N C_square_parts hr hG (by rfl) 0 (da_cons (de_of (pv 3)) da_nil)) (dg_seq rfl (dgs_cons (dg_name (i := 4) sc_num_made.nd rfl (by first | exact .inl rfl | exact .inr rfl)) (dgs_cons (dg_name (i := 5) sc_num_made.nd rfl (by first | exact .inl rfl | exact .inr rfl)) dgs_nil))))
  (dss_cons (ds_if (dt_cmp (cd_eq hr.units) (db_of (pv 5)) (de_int).toB)
  (dss_one (ds_ret (cal_N C_lowered hr hG (by rfl) 0 (da_cons (de_add (db_of (pv 0)) (DE.toB (de_mul (db_of (pv 1)) (db_of (pv 4))))) (da_cons de_int (da_cons (de_of (pv 2)) (da_cons de_int da_nil)))))))
  dss_nil)
  (dss_one (ds_ret (cal_N C_lowered hr hG (by rfl) 0 (da_cons (de_of (pv 0)) (da_cons (de_mul (db_of (pv 1)) (db_of (pv 4))) (da_cons (de_of (pv 2)) (da_cons (de_of (pv 5)) da_nil)))))))))), fun ds q x h => ((fn_num_made_eq ds q x).mp h).2⟩
theorem ok_num (F : FnP K "num" (top 16) [.int 1] f fd) (T : Txt K mg) (C_lowered : Cal_lowered P w K mg base) : FnG P w K mg base CX0 2 f fd p_num (spN K false fn_num) :=
  okN F sc_num (fun ds q x h => ((fn_num_eq ds q x).mp h).1) fun cdv A outer s H E hr hG => ⟨[], g_num, (dss_one (ds_ret (cal_N C_lowered hr hG (by rfl) 0 (da_cons (de_of (pv 0)) (da_cons de_int (da_cons (de_of (pv 1)) (da_cons de_int da_nil))))))), fun ds q x h => ((fn_num_eq ds q x).mp h).2⟩
theorem ok_do_go_together (F : FnP K "do_go_together" (top 17) [] f fd) (T : Txt K mg)  : FnG P w K mg base CX0 1 f fd p_do_go_together (spN K false fn_do_go_together) :=
  okN F sc_do_go_together (fun ds q x h => ((fn_do_go_together_eq ds q x).mp h).1) fun cdv A outer s H E hr hG => ⟨[], g_do_go_together, (dss_one (ds_ret (de_or (de_cmp (cd_eq hr.units) (DE.toB (de_ix (db_of (pv 0)) (de_int).toB)) (de_int).toB) (de_or (de_cmp (cd_eq hr.units) (DE.toB (de_ix (db_of (pv 1)) (de_int).toB)) (de_int).toB) (de_one (de_cmp (cd_eq hr.units) (DE.toB (de_ix (db_of (pv 0)) (de_int).toB)) (DE.toB (de_ix (db_of (pv 1)) (de_int).toB)))))))), fun ds q x h => ((fn_do_go_together_eq ds q x).mp h).2⟩
theorem ok_root_under (F : FnP K "root_under" (top 18) [] f fd) (T : Txt K mg)  : FnG P w K mg base CX0 1 f fd p_root_under (spN K false fn_root_under) :=
  okN F sc_root_under (fun ds q x h => ((fn_root_under_eq ds q x).mp h).1) fun cdv A outer s H E hr hG => ⟨[], g_root_under, (dss_one (ds_ret (de_if (dt_cmp (cd_ne hr.units) (DE.toB (de_ix (db_of (pv 0)) (de_int).toB)) (de_int).toB) (de_ix (db_of (pv 0)) (de_int).toB) (de_ix (db_of (pv 1)) (de_int).toB)))), fun ds q x h => ((fn_root_under_eq ds q x).mp h).2⟩
theorem ok_num_times (F : FnP K "num_times" (top 19) [] f fd) (T : Txt K mg) (C_lowered : Cal_lowered P w K mg base) (C_root_under : Cal_root_under P w K mg base) : FnG P w K mg base CX0 2 f fd p_num_times (spN K false fn_num_times) :=
  okN F sc_num_times (fun ds q x h => ((fn_num_times_eq ds q x).mp h).1) fun cdv A outer s H E hr hG => ⟨[], g_num_times, (dss_cons (ds_set (i := 2) sc_num_times.nd rfl (by first | exact .inl rfl | exact .inr rfl) (cal_N C_root_under hr hG (by rfl) 0 (da_cons (de_of (pv 0)) (da_cons (de_of (pv 1)) da_nil))))
  (dss_one (ds_ret (cal_N C_lowered hr hG (by rfl) 0 (da_cons (de_add (DE.toB (de_mul (DE.toB (de_ix (db_of (pv 0)) (de_int).toB)) (DE.toB (de_ix (db_of (pv 1)) (de_int).toB)))) (DE.toB (de_mul (DE.toB (de_mul (DE.toB (de_ix (db_of (pv 0)) (de_int).toB)) (DE.toB (de_ix (db_of (pv 1)) (de_int).toB)))) (db_of (pv 2))))) (da_cons (de_add (DE.toB (de_mul (DE.toB (de_ix (db_of (pv 0)) (de_int).toB)) (DE.toB (de_ix (db_of (pv 1)) (de_int).toB)))) (DE.toB (de_mul (DE.toB (de_ix (db_of (pv 0)) (de_int).toB)) (DE.toB (de_ix (db_of (pv 1)) (de_int).toB))))) (da_cons (de_mul (DE.toB (de_ix (db_of (pv 0)) (de_int).toB)) (DE.toB (de_ix (db_of (pv 1)) (de_int).toB))) (da_cons (de_of (pv 2)) da_nil)))))))), fun ds q x h => ((fn_num_times_eq ds q x).mp h).2⟩
theorem ok_num_root (F : FnP K "num_root" (top 20) [] f fd) (T : Txt K mg) (C_num_made : Cal_num_made P w K mg base) : FnG P w K mg base CX0 4 f fd p_num_root (spN K false fn_num_root) :=
  okN F sc_num_root (fun ds q x h => ((fn_num_root_eq ds q x).mp h).1) fun cdv A outer s H E hr hG => ⟨[], g_num_root, (dss_cons (ds_par2 (i := 1) (j := 2) rfl sc_num_root.nd rfl rfl rfl rfl (da_cons (de_ix (db_of (pv 0)) (de_int).toB) (da_cons (de_ix (db_of (pv 0)) (de_int).toB) da_nil)))
  (dss_one (ds_ret (de_if (dt_cmp (cd_eq hr.units) (db_of (pv 1)) (de_int).toB) (de_con (by rfl) T.c_NIL) (cal_N C_num_made hr hG (by rfl) 0 (da_cons de_int (da_cons de_int (da_cons (de_of (pv 2)) (da_cons (de_mul (db_of (pv 1)) (db_of (pv 2))) da_nil))))))))), fun ds q x h => ((fn_num_root_eq ds q x).mp h).2⟩
theorem ok_is_number (F : FnP K "is_number" (top 22) [] f fd) (T : Txt K mg) (C_is_number_value : Cal_is_number_value P w K mg base) : FnG P w K mg base CX0 5 f fd p_is_number (spN K false fn_is_number) :=
  okN F sc_is_number (fun ds q x h => ((fn_is_number_eq ds q x).mp h).1) fun cdv A outer s H E hr hG => ⟨[], g_is_number, (dss_one (ds_ret (cal_N C_is_number_value hr hG (by rfl) 0 (da_cons (de_of (pv 0)) da_nil)))), fun ds q x h => ((fn_is_number_eq ds q x).mp h).2⟩
theorem ok_number_of (F : FnP K "number_of" (top 23) [] f fd) (T : Txt K mg) (C_is_whole : Cal_is_whole P w K mg base) (C_num_made : Cal_num_made P w K mg base) (M_BadNumber : Mkr P w K mg base "BadNumber") : FnG P w K mg base (L2.CX P w) 4 f fd p_number_of (spN K false fn_number_of) :=
  okNx F sc_number_of (fun ds q x h => ((fn_number_of_eq ds q x).mp h).1) fun cdv A outer s H E hr hG tk hp => ⟨[], g_number_of, (dss_cons (ds_if (dw_pt (dw_or (dt_not (dt_val (de_all rfl (by rfl) T.n_all (DE.toB (DF.toE (df_lc (own := [("item", 4)]) rfl sc_number_of.nd (di_seq (de_tup (da_cons (de_of (pv 0)) (da_cons (de_of (pv 1)) (da_cons (de_of (pv 2)) (da_cons (de_of (pv 3)) da_nil)))))) (blkOk_by (by rfl)) (fun _ _ _ _ _ => (dgw_name (i := 4) sc_number_of.nd rfl (by first | exact .inl rfl | exact .inr rfl) (by first | exact .inl rfl | exact .inr rfl))) (fun _ _ _ _ _ => dts_nil) (fun _ _ _ _ _ => (cal_N C_is_whole hr hG (by rfl) 0 (da_cons (de_of (pv 4)) da_nil))))))))) (dw_or (dt_cmp (cd_eq hr.units) (db_of (pv 2)) (de_int).toB) (dw_or1 (dt_cmp (cd_eq hr.units) (db_of (pv 3)) (de_int).toB)))))
  (dss_one (ds_raise rfl tk M_BadNumber hr hG (by rfl) (de_tup (da_cons (de_of (pv 0)) (da_cons (de_of (pv 1)) (da_cons (de_of (pv 2)) (da_cons (de_of (pv 3)) da_nil)))))))
  dss_nil)
  (dss_one (ds_ret (cal_N C_num_made hr hG (by rfl) 0 (da_cons (de_of (pv 0)) (da_cons (de_of (pv 1)) (da_cons (de_of (pv 2)) (da_cons (de_of (pv 3)) da_nil)))))))), fun ds q x h => ((fn_number_of_eq ds q x).mp h).2⟩
theorem ok_need_two (F : FnP K "need_two" (top 24) [] f fd) (T : Txt K mg) (C_need_number : Cal_need_number P w K mg base) : FnG P w K mg base (L2.CX P w) 6 f fd p_need_two (spN K false fn_need_two) :=
  okNx F sc_need_two (fun ds q x h => ((fn_need_two_eq ds q x).mp h).1) fun cdv A outer s H E hr hG tk hp => ⟨[], g_need_two, (dss_cons (ds_expr (calX_N C_need_number tk hr hG (by rfl) 0 (da_cons (de_of (pv 0)) da_nil)))
  (dss_one (ds_expr (calX_N C_need_number tk hr hG (by rfl) 0 (da_cons (de_of (pv 1)) da_nil))))), fun ds q x h => ((fn_need_two_eq ds q x).mp h).2⟩
theorem ok_need_together (F : FnP K "need_together" (top 25) [] f fd) (T : Txt K mg) (C_do_go_together : Cal_do_go_together P w K mg base) (M_OtherRoot : Mkr P w K mg base "OtherRoot") : FnG P w K mg base (L2.CX P w) 3 f fd p_need_together (spN K false fn_need_together) :=
  okNx F sc_need_together (fun ds q x h => ((fn_need_together_eq ds q x).mp h).1) fun cdv A outer s H E hr hG tk hp => ⟨[], g_need_together, (dss_one (ds_if (dt_not (dt_val (cal_N C_do_go_together hr hG (by rfl) 0 (da_cons (de_of (pv 0)) (da_cons (de_of (pv 1)) da_nil)))))
  (dss_one (ds_raise rfl tk M_OtherRoot hr hG (by rfl) (de_of (pv 1))))
  dss_nil)), fun ds q x h => ((fn_need_together_eq ds q x).mp h).2⟩
theorem ok_times (F : FnP K "times" (top 26) [] f fd) (T : Txt K mg) (C_need_together : Cal_need_together P w K mg base) (C_need_two : Cal_need_two P w K mg base) (C_num_times : Cal_num_times P w K mg base) : FnG P w K mg base (L2.CX P w) 7 f fd p_times (spN K false fn_times) :=
  okNx F sc_times (fun ds q x h => ((fn_times_eq ds q x).mp h).1) fun cdv A outer s H E hr hG tk hp => ⟨[], g_times, (dss_cons (ds_expr (calX_N C_need_two tk hr hG (by rfl) 0 (da_cons (de_of (pv 0)) (da_cons (de_of (pv 1)) da_nil))))
  (dss_cons (ds_expr (calX_N C_need_together tk hr hG (by rfl) 0 (da_cons (de_of (pv 0)) (da_cons (de_of (pv 1)) da_nil))))
  (dss_one (ds_ret (cal_N C_num_times hr hG (by rfl) 0 (da_cons (de_of (pv 0)) (da_cons (de_of (pv 1)) da_nil))))))), fun ds q x h => ((fn_times_eq ds q x).mp h).2⟩
theorem ok_root_of (F : FnP K "root_of" (top 27) [] f fd) (T : Txt K mg) (C_is_whole : Cal_is_whole P w K mg base) (C_num : Cal_num P w K mg base) (C_num_root : Cal_num_root P w K mg base) (M_BadNumber : Mkr P w K mg base "BadNumber") : FnG P w K mg base (L2.CX P w) 5 f fd p_root_of (spN K false fn_root_of) :=
  okNx F sc_root_of (fun ds q x h => ((fn_root_of_eq ds q x).mp h).1) fun cdv A outer s H E hr hG tk hp => ⟨[], g_root_of, (dss_cons (ds_if (dw_pt (dw_or (dt_not (dt_val (cal_N C_is_whole hr hG (by rfl) 0 (da_cons (de_of (pv 0)) da_nil)))) (dw_or (dt_not (dt_val (cal_N C_is_whole hr hG (by rfl) 0 (da_cons (de_of (pv 1)) da_nil)))) (dw_or1 (dt_cmp (cd_eq hr.units) (db_of (pv 1)) (de_int).toB)))))
  (dss_one (ds_raise rfl tk M_BadNumber hr hG (by rfl) (de_tup (da_cons (de_of (pv 0)) (da_cons (de_of (pv 1)) da_nil)))))
  dss_nil)
  (dss_one (ds_ret (cal_N C_num_root hr hG (by rfl) 0 (da_cons (cal_N C_num hr hG (by rfl) 0 (da_cons (de_of (pv 0)) (da_cons (de_of (pv 1)) da_nil))) da_nil))))), fun ds q x h => ((fn_root_of_eq ds q x).mp h).2⟩
theorem ok__law_great (F : FnP K "_law_great" (top 31) [] f fd) (T : Txt K mg) (C__law_draw : Cal__law_draw P w K mg base) : FnG P w K mg base CX0 2 f fd p__law_great (spG K "left" false fn__law_great) :=
  okG F sc__law_great (fun ds q x h => by rw [((fn__law_great_eq ds q x).mp h).1]; rfl) fun cdv A outer s H E d l hr hG => ⟨[], g__law_great d, (dss_cons (ds_par2 (i := 2) (j := 3) rfl sc__law_great.nd rfl rfl rfl rfl (da_cons de_int (da_cons (de_of (pv 1)) da_nil)))
  (dss_cons (ds_while PassesOwn.never (dt_cmp cd_gt (db_of (pv 3)) (de_int).toB)
  (dss_one (ds_par2 (i := 2) (j := 3) rfl sc__law_great.nd rfl rfl rfl rfl (da_cons (de_add (DE.toB (de_mul (db_of (pv 2)) (DE.toB (de_pow (de_int).toB (de_int).toB)))) (DE.toB (cal_G C__law_draw hr hG (by rfl) (da_cons (de_of (pv 0)) (da_cons (de_pow (de_int).toB (de_int).toB) da_nil))))) (da_cons (de_div (db_of (pv 3)) (DE.toB (de_pow (de_int).toB (de_int).toB))) da_nil)))))
  (dss_one (ds_ret (de_mod (DE.toB (de_toInt (by rfl) T.n_int (db_of (pv 2)))) (db_of (pv 1))))))), fun ds q x h => ((fn__law_great_eq ds q x).mp h).2 d⟩
theorem ok__law_pick (F : FnP K "_law_pick" (top 32) [] f fd) (T : Txt K mg) (C__law_draw : Cal__law_draw P w K mg base) : FnG P w K mg base CX0 2 f fd p__law_pick (spG K "left" false fn__law_pick) :=
  okG F sc__law_pick (fun ds q x h => by rw [((fn__law_pick_eq ds q x).mp h).1]; rfl) fun cdv A outer s H E d l hr hG => ⟨[], g__law_pick d, (dss_one (ds_ret (de_ix (db_of (pv 1)) (DE.toB (cal_G C__law_draw hr hG (by rfl) (da_cons (de_of (pv 0)) (da_cons (de_len (by rfl) T.n_len (db_of (pv 1))) da_nil))))))), fun ds q x h => ((fn__law_pick_eq ds q x).mp h).2 d⟩
theorem ok__law_near (F : FnP K "_law_near" (top 33) [] f fd) (T : Txt K mg) (C__law_draw : Cal__law_draw P w K mg base) : FnG P w K mg base CX0 2 f fd p__law_near (spG K "left" false fn__law_near) :=
  okG F sc__law_near (fun ds q x h => by rw [((fn__law_near_eq ds q x).mp h).1]; rfl) fun cdv A outer s H E d l hr hG => ⟨[], g__law_near d, (dss_one (ds_ret (de_sub (DE.toB (cal_G C__law_draw hr hG (by rfl) (da_cons (de_of (pv 0)) (da_cons (de_add (DE.toB (de_mul (de_int).toB (db_of (pv 1)))) (de_int).toB) da_nil)))) (db_of (pv 1))))), fun ds q x h => ((fn__law_near_eq ds q x).mp h).2 d⟩
theorem ok__law_common (F : FnP K "_law_common" (top 34) [] f fd) (T : Txt K mg)  : FnG P w K mg base CX0 1 f fd p__law_common (spN K false fn__law_common) :=
  okN F sc__law_common (fun ds q x h => ((fn__law_common_eq ds q x).mp h).1) fun cdv A outer s H E hr hG => ⟨[], g__law_common, (dss_cons (ds_par2 (i := 0) (j := 1) rfl sc__law_common.nd rfl rfl rfl rfl (da_cons (de_abs (by rfl) T.n_abs (db_of (pv 0))) (da_cons (de_abs (by rfl) T.n_abs (db_of (pv 1))) da_nil)))
  (dss_cons (ds_while PassesOwn.never (dt_cmp cd_gt (db_of (pv 1)) (de_int).toB)
  (dss_one (ds_par2 (i := 0) (j := 1) rfl sc__law_common.nd rfl rfl rfl rfl (da_cons (de_of (pv 1)) (da_cons (de_mod (DE.toB (de_toInt (by rfl) T.n_int (db_of (pv 0)))) (db_of (pv 1))) da_nil)))))
  (dss_one (ds_ret (de_of (pv 0)))))), fun ds q x h => ((fn__law_common_eq ds q x).mp h).2⟩
theorem ok__law_is_integer (F : FnP K "_law_is_integer" (top 35) [] f fd) (T : Txt K mg)  : FnG P w K mg base CX0 1 f fd p__law_is_integer (spN K false fn__law_is_integer) :=
  okN F sc__law_is_integer (fun ds q x h => ((fn__law_is_integer_eq ds q x).mp h).1) fun cdv A outer s H E hr hG => ⟨[], g__law_is_integer, (dss_one (ds_ret (de_and (de_isi (T := "int") (by rfl) T.n_isinstance (by rfl) T.n_int (by decide +kernel) (db_of (pv 0)) isi_int) (de_one (de_not (de_isi (T := "bool") (by rfl) T.n_isinstance (by rfl) T.n_bool (by decide +kernel) (db_of (pv 0)) isi_bool)))))), fun ds q x h => ((fn__law_is_integer_eq ds q x).mp h).2⟩
theorem ok__law_is_lean (F : FnP K "_law_is_lean" (top 36) [] f fd) (T : Txt K mg)  : FnG P w K mg base CX0 1 f fd p__law_is_lean (spN K false fn__law_is_lean) :=
  okN F sc__law_is_lean (fun ds q x h => ((fn__law_is_lean_eq ds q x).mp h).1) fun cdv A outer s H E hr hG => ⟨[], g__law_is_lean, (dss_cons (ds_set (i := 1) sc__law_is_lean.nd rfl (by first | exact .inl rfl | exact .inr rfl) de_int)
  (dss_cons (ds_while PassesOwn.never (dt_cmp cd_le (DE.toB (de_mul (db_of (pv 1)) (db_of (pv 1)))) (DE.toB (de_abs (by rfl) T.n_abs (db_of (pv 0)))))
  (dss_cons (ds_if (dt_cmp (cd_eq hr.units) (DE.toB (de_mod (DE.toB (de_toInt (by rfl) T.n_int (db_of (pv 0)))) (DE.toB (de_mul (db_of (pv 1)) (db_of (pv 1)))))) (de_int).toB)
  (dss_one (ds_ret de_bl))
  dss_nil)
  (dss_one (ds_set (i := 1) sc__law_is_lean.nd rfl (by first | exact .inl rfl | exact .inr rfl) (de_add (db_of (pv 1)) (de_int).toB)))))
  (dss_one (ds_ret (de_cmp (cd_ne hr.units) (db_of (pv 0)) (de_int).toB))))), fun ds q x h => ((fn__law_is_lean_eq ds q x).mp h).2⟩
theorem ok__law_any_1 (F : FnP K "_law_any" (top 37) [] f fd) (T : Txt K mg) (C_rc : Cal__law_any_0 P w K mg base) (C__law_draw : Cal__law_draw P w K mg base) (C__law_pick : Cal__law_pick P w K mg base) : FnG P w K mg base CX0 3 f fd p__law_any (spG K "left" false fn__law_any_1) :=
  okG F sc__law_any (fun ds q x h => by rw [((fn__law_any_1_eq ds q x).mp h).1]; rfl) fun cdv A outer s H E d l hr hG => ⟨[], g__law_any fn__law_any_0 d, (dss_cons (ds_set (i := 2) sc__law_any.nd rfl (by first | exact .inl rfl | exact .inr rfl) (cal_G C__law_draw hr hG (by rfl) (da_cons (de_of (pv 0)) (da_cons de_int da_nil))))
  (dss_cons (ds_if (dt_cmp cd_lt (db_of (pv 2)) (de_int).toB)
  (dss_one (ds_ret (cal_G C__law_pick hr hG (by rfl) (da_cons (de_of (pv 0)) (da_cons (DF.toE (df_lst (da_cons de_int (da_cons de_int (da_cons (de_neg (de_int).toB) (da_cons de_int (da_cons (de_mul (de_int).toB (DE.toB (de_pow (de_int).toB (de_int).toB))) (da_cons (de_neg (DE.toB (de_pow (de_int).toB (de_int).toB))) (da_cons de_int (da_cons de_int da_nil)))))))))) da_nil)))))
  dss_nil)
  (dss_cons (ds_if (dt_cmp cd_lt (db_of (pv 2)) (de_int).toB)
  (dss_one (ds_ret (cal_G C__law_pick hr hG (by rfl) (da_cons (de_of (pv 0)) (da_cons (DF.toE (df_lst (da_cons de_str (da_cons de_str (da_cons de_str (da_cons de_str (da_cons de_str (da_cons de_str da_nil)))))))) da_nil)))))
  dss_nil)
  (dss_cons (ds_if (dt_cmp (cd_eq hr.units) (db_of (pv 2)) (de_int).toB)
  (dss_one (ds_ret (cal_G C__law_pick hr hG (by rfl) (da_cons (de_of (pv 0)) (da_cons (DF.toE (df_lst (da_cons de_bl (da_cons de_bl (da_cons de_non da_nil))))) da_nil)))))
  dss_nil)
  (dss_cons (ds_set (i := 3) sc__law_any.nd rfl (by first | exact .inl rfl | exact .inr rfl) (de_if (dt_cmp cd_gt (db_of (pv 1)) (de_int).toB) (DF.toE (df_lc (own := [("turn", 4)]) rfl sc__law_any.nd (di_range1 (by rfl) T.n_range (cal_G C__law_draw hr hG (by rfl) (da_cons (de_of (pv 0)) (da_cons de_int da_nil)))) (blkOk_by (by rfl)) (fun _ _ _ _ _ => (dgw_name (i := 4) sc__law_any.nd rfl (by first | exact .inl rfl | exact .inr rfl) (by first | exact .inl rfl | exact .inr rfl))) (fun _ _ _ _ _ => dts_nil) (fun _ _ _ _ _ => (cal_G C_rc hr hG (by rfl) (da_cons (de_of (pv 0)) (da_cons (de_sub (db_of (pv 1)) (de_int).toB) da_nil)))))) (DF.toE (df_lst da_nil))))
  (dss_cons (ds_if (dt_cmp (cd_eq hr.units) (db_of (pv 2)) (de_int).toB)
  (dss_one (ds_ret (de_of (pv 3))))
  dss_nil)
  (dss_one (ds_ret (de_if (dt_cmp (cd_eq hr.units) (db_of (pv 2)) (de_int).toB) (de_dic (dp_cons dk_str (de_of (pv 3)) (dp_cons dk_int (de_len (by rfl) T.n_len (db_of (pv 3))) dp_nil)) (by decide) (by rfl) (by rfl) (fun z => nomatch z) (Nat.le_of_ble_eq_true rfl) (Nat.le_of_ble_eq_true rfl)) (de_tuple (by rfl) T.n_tuple (db_of (pv 3)))))))))))), fun ds q x h => ((fn__law_any_1_eq ds q x).mp h).2 d⟩
theorem ok__law_any_2 (F : FnP K "_law_any" (top 37) [] f fd) (T : Txt K mg) (C_rc : Cal__law_any_1 P w K mg base) (C__law_draw : Cal__law_draw P w K mg base) (C__law_pick : Cal__law_pick P w K mg base) : FnG P w K mg base CX0 4 f fd p__law_any (spG K "left" false fn__law_any_2) :=
  okG F sc__law_any (fun ds q x h => by rw [((fn__law_any_2_eq ds q x).mp h).1]; rfl) fun cdv A outer s H E d l hr hG => ⟨[], g__law_any fn__law_any_1 d, (dss_cons (ds_set (i := 2) sc__law_any.nd rfl (by first | exact .inl rfl | exact .inr rfl) (cal_G C__law_draw hr hG (by rfl) (da_cons (de_of (pv 0)) (da_cons de_int da_nil))))
  (dss_cons (ds_if (dt_cmp cd_lt (db_of (pv 2)) (de_int).toB)
  (dss_one (ds_ret (cal_G C__law_pick hr hG (by rfl) (da_cons (de_of (pv 0)) (da_cons (DF.toE (df_lst (da_cons de_int (da_cons de_int (da_cons (de_neg (de_int).toB) (da_cons de_int (da_cons (de_mul (de_int).toB (DE.toB (de_pow (de_int).toB (de_int).toB))) (da_cons (de_neg (DE.toB (de_pow (de_int).toB (de_int).toB))) (da_cons de_int (da_cons de_int da_nil)))))))))) da_nil)))))
  dss_nil)
  (dss_cons (ds_if (dt_cmp cd_lt (db_of (pv 2)) (de_int).toB)
  (dss_one (ds_ret (cal_G C__law_pick hr hG (by rfl) (da_cons (de_of (pv 0)) (da_cons (DF.toE (df_lst (da_cons de_str (da_cons de_str (da_cons de_str (da_cons de_str (da_cons de_str (da_cons de_str da_nil)))))))) da_nil)))))
  dss_nil)
  (dss_cons (ds_if (dt_cmp (cd_eq hr.units) (db_of (pv 2)) (de_int).toB)
  (dss_one (ds_ret (cal_G C__law_pick hr hG (by rfl) (da_cons (de_of (pv 0)) (da_cons (DF.toE (df_lst (da_cons de_bl (da_cons de_bl (da_cons de_non da_nil))))) da_nil)))))
  dss_nil)
  (dss_cons (ds_set (i := 3) sc__law_any.nd rfl (by first | exact .inl rfl | exact .inr rfl) (de_if (dt_cmp cd_gt (db_of (pv 1)) (de_int).toB) (DF.toE (df_lc (own := [("turn", 4)]) rfl sc__law_any.nd (di_range1 (by rfl) T.n_range (cal_G C__law_draw hr hG (by rfl) (da_cons (de_of (pv 0)) (da_cons de_int da_nil)))) (blkOk_by (by rfl)) (fun _ _ _ _ _ => (dgw_name (i := 4) sc__law_any.nd rfl (by first | exact .inl rfl | exact .inr rfl) (by first | exact .inl rfl | exact .inr rfl))) (fun _ _ _ _ _ => dts_nil) (fun _ _ _ _ _ => (cal_G C_rc hr hG (by rfl) (da_cons (de_of (pv 0)) (da_cons (de_sub (db_of (pv 1)) (de_int).toB) da_nil)))))) (DF.toE (df_lst da_nil))))
  (dss_cons (ds_if (dt_cmp (cd_eq hr.units) (db_of (pv 2)) (de_int).toB)
  (dss_one (ds_ret (de_of (pv 3))))
  dss_nil)
  (dss_one (ds_ret (de_if (dt_cmp (cd_eq hr.units) (db_of (pv 2)) (de_int).toB) (de_dic (dp_cons dk_str (de_of (pv 3)) (dp_cons dk_int (de_len (by rfl) T.n_len (db_of (pv 3))) dp_nil)) (by decide) (by rfl) (by rfl) (fun z => nomatch z) (Nat.le_of_ble_eq_true rfl) (Nat.le_of_ble_eq_true rfl)) (de_tuple (by rfl) T.n_tuple (db_of (pv 3)))))))))))), fun ds q x h => ((fn__law_any_2_eq ds q x).mp h).2 d⟩
theorem ok__law_any_3 (F : FnP K "_law_any" (top 37) [] f fd) (T : Txt K mg) (C_rc : Cal__law_any_2 P w K mg base) (C__law_draw : Cal__law_draw P w K mg base) (C__law_pick : Cal__law_pick P w K mg base) : FnG P w K mg base CX0 5 f fd p__law_any (spG K "left" false fn__law_any_3) :=
  okG F sc__law_any (fun ds q x h => by rw [((fn__law_any_3_eq ds q x).mp h).1]; rfl) fun cdv A outer s H E d l hr hG => ⟨[], g__law_any fn__law_any_2 d, (dss_cons (ds_set (i := 2) sc__law_any.nd rfl (by first | exact .inl rfl | exact .inr rfl) (cal_G C__law_draw hr hG (by rfl) (da_cons (de_of (pv 0)) (da_cons de_int da_nil))))
  (dss_cons (ds_if (dt_cmp cd_lt (db_of (pv 2)) (de_int).toB)
  (dss_one (ds_ret (cal_G C__law_pick hr hG (by rfl) (da_cons (de_of (pv 0)) (da_cons (DF.toE (df_lst (da_cons de_int (da_cons de_int (da_cons (de_neg (de_int).toB) (da_cons de_int (da_cons (de_mul (de_int).toB (DE.toB (de_pow (de_int).toB (de_int).toB))) (da_cons (de_neg (DE.toB (de_pow (de_int).toB (de_int).toB))) (da_cons de_int (da_cons de_int da_nil)))))))))) da_nil)))))
  dss_nil)
  (dss_cons (ds_if (dt_cmp cd_lt (db_of (pv 2)) (de_int).toB)
  (dss_one (ds_ret (cal_G C__law_pick hr hG (by rfl) (da_cons (de_of (pv 0)) (da_cons (DF.toE (df_lst (da_cons de_str (da_cons de_str (da_cons de_str (da_cons de_str (da_cons de_str (da_cons de_str da_nil)))))))) da_nil)))))
  dss_nil)
  (dss_cons (ds_if (dt_cmp (cd_eq hr.units) (db_of (pv 2)) (de_int).toB)
  (dss_one (ds_ret (cal_G C__law_pick hr hG (by rfl) (da_cons (de_of (pv 0)) (da_cons (DF.toE (df_lst (da_cons de_bl (da_cons de_bl (da_cons de_non da_nil))))) da_nil)))))
  dss_nil)
  (dss_cons (ds_set (i := 3) sc__law_any.nd rfl (by first | exact .inl rfl | exact .inr rfl) (de_if (dt_cmp cd_gt (db_of (pv 1)) (de_int).toB) (DF.toE (df_lc (own := [("turn", 4)]) rfl sc__law_any.nd (di_range1 (by rfl) T.n_range (cal_G C__law_draw hr hG (by rfl) (da_cons (de_of (pv 0)) (da_cons de_int da_nil)))) (blkOk_by (by rfl)) (fun _ _ _ _ _ => (dgw_name (i := 4) sc__law_any.nd rfl (by first | exact .inl rfl | exact .inr rfl) (by first | exact .inl rfl | exact .inr rfl))) (fun _ _ _ _ _ => dts_nil) (fun _ _ _ _ _ => (cal_G C_rc hr hG (by rfl) (da_cons (de_of (pv 0)) (da_cons (de_sub (db_of (pv 1)) (de_int).toB) da_nil)))))) (DF.toE (df_lst da_nil))))
  (dss_cons (ds_if (dt_cmp (cd_eq hr.units) (db_of (pv 2)) (de_int).toB)
  (dss_one (ds_ret (de_of (pv 3))))
  dss_nil)
  (dss_one (ds_ret (de_if (dt_cmp (cd_eq hr.units) (db_of (pv 2)) (de_int).toB) (de_dic (dp_cons dk_str (de_of (pv 3)) (dp_cons dk_int (de_len (by rfl) T.n_len (db_of (pv 3))) dp_nil)) (by decide) (by rfl) (by rfl) (fun z => nomatch z) (Nat.le_of_ble_eq_true rfl) (Nat.le_of_ble_eq_true rfl)) (de_tuple (by rfl) T.n_tuple (db_of (pv 3)))))))))))), fun ds q x h => ((fn__law_any_3_eq ds q x).mp h).2 d⟩
theorem ok__law_instead (F : FnP K "_law_instead" (top 38) [] f fd) (T : Txt K mg)  : FnG P w K mg base CX0 1 f fd p__law_instead (spN K false fn__law_instead) :=
  okN F sc__law_instead (fun ds q x h => ((fn__law_instead_eq ds q x).mp h).1) fun cdv A outer s H E hr hG => ⟨[], g__law_instead, (dss_one (ds_ret (de_add (DE.toB (de_add (DE.toB (de_sl (db_of (pv 0)) do_none (do_some (de_of (pv 1))))) (DE.toB (de_tup (da_cons (de_of (pv 2)) da_nil))))) (DE.toB (de_sl (db_of (pv 0)) (do_some (de_add (db_of (pv 1)) (de_int).toB)) do_none))))), fun ds q x h => ((fn__law_instead_eq ds q x).mp h).2⟩
theorem ok__law_bent_1 (F : FnP K "_law_bent" (top 39) [] f fd) (T : Txt K mg) (C_rc : Cal__law_bent_0 P w K mg base) (C__law_any : Cal__law_any P w K mg base) (C__law_draw : Cal__law_draw P w K mg base) (C__law_instead : Cal__law_instead P w K mg base) (C__law_is_integer : Cal__law_is_integer P w K mg base) (C__law_pick : Cal__law_pick P w K mg base) : FnG P w K mg base CX0 6 f fd p__law_bent (spG K "left" false fn__law_bent_1) :=
  okG F sc__law_bent (fun ds q x h => by rw [((fn__law_bent_1_eq ds q x).mp h).1]; rfl) fun cdv A outer s H E d l hr hG => ⟨[], g__law_bent fn__law_bent_0 d, (dss_cons (ds_if (dw_pt (dw_or (dt_not (dt_val (de_isi (T := "tuple") (by rfl) T.n_isinstance (by rfl) T.n_tuple (by decide +kernel) (db_of (pv 1)) isi_tuple))) (dw_or (dt_cmp (cd_eq hr.units) (db_of (pv 1)) (DE.toB (de_tup da_nil))) (dw_or (dt_cmp (cd_eq hr.units) (db_of (pv 2)) (de_int).toB) (dw_or1 (dt_cmp (cd_eq hr.units) (DE.toB (cal_G C__law_draw hr hG (by rfl) (da_cons (de_of (pv 0)) (da_cons de_int da_nil)))) (de_int).toB))))))
  (dss_cons (ds_set (i := 3) sc__law_bent.nd rfl (by first | exact .inl rfl | exact .inr rfl) (cal_G C__law_draw hr hG (by rfl) (da_cons (de_of (pv 0)) (da_cons de_int da_nil))))
  (dss_cons (ds_if (dt_val (cal_N C__law_is_integer hr hG (by rfl) 0 (da_cons (de_of (pv 1)) da_nil)))
  (dss_one (ds_ret (cal_G C__law_pick hr hG (by rfl) (da_cons (de_of (pv 0)) (da_cons (DF.toE (df_lst (da_cons de_int (da_cons (de_neg (db_of (pv 1))) (da_cons (de_mul (de_int).toB (db_of (pv 1))) (da_cons (de_add (db_of (pv 1)) (de_int).toB) (da_cons (de_bool1 (by rfl) T.n_bool (db_of (pv 1))) (da_cons (de_str1 (by rfl) T.n_str (db_of (pv 1))) (da_cons (de_tup (da_cons (de_of (pv 1)) da_nil)) (da_cons (DF.toE (df_lst (da_cons (de_of (pv 1)) da_nil))) (da_cons de_non (da_cons (de_mul (de_int).toB (db_of (pv 1))) da_nil)))))))))))) da_nil)))))
  dss_nil)
  (dss_cons (ds_if (dw_pt (dw_or (dt_cmp (cd_eq hr.units) (db_of (pv 3)) (de_int).toB) (dw_or1 (dt_not (dt_val (de_isi (T := "tuple") (by rfl) T.n_isinstance (by rfl) T.n_tuple (by decide +kernel) (db_of (pv 1)) isi_tuple))))))
  (dss_one (ds_ret (cal_G C__law_any hr hG (by rfl) (da_cons (de_of (pv 0)) (da_cons de_int da_nil)))))
  dss_nil)
  (dss_cons (ds_if (dt_cmp cd_lt (db_of (pv 3)) (de_int).toB)
  (dss_one (ds_ret (DF.toE (df_list (by rfl) T.n_list (db_of (pv 1))))))
  dss_nil)
  (dss_cons (ds_if (dt_cmp cd_lt (db_of (pv 3)) (de_int).toB)
  (dss_one (ds_ret (de_add (db_of (pv 1)) (DE.toB (de_tup (da_cons (cal_G C__law_pick hr hG (by rfl) (da_cons (de_of (pv 0)) (da_cons (DF.toE (df_lst (da_cons (de_tup da_nil) (da_cons de_int (da_cons (de_tup (da_cons de_int (da_cons de_int (da_cons de_int da_nil)))) (da_cons (de_tup (da_cons (de_tup (da_cons de_int (da_cons de_int (da_cons de_int da_nil)))) da_nil)) (da_cons de_non (da_cons de_bl da_nil)))))))) da_nil))) da_nil))))))
  dss_nil)
  (dss_cons (ds_if (dt_cmp cd_lt (db_of (pv 3)) (de_int).toB)
  (dss_cons (ds_set (i := 4) sc__law_bent.nd rfl (by first | exact .inl rfl | exact .inr rfl) (de_cmp (cd_ne hr.units) (DE.toB (DF.toE (df_lc (own := [("x", 5)]) rfl sc__law_bent.nd (di_seq (de_of (pv 1))) (blkOk_by (by rfl)) (fun _ _ _ _ _ => (dgw_name (i := 5) sc__law_bent.nd rfl (by first | exact .inl rfl | exact .inr rfl) (by first | exact .inl rfl | exact .inr rfl))) (fun _ _ _ _ _ => (dts_one (dw_pt (dw_and (dt_val (cal_N C__law_is_integer hr hG (by rfl) 0 (da_cons (de_of (pv 5)) da_nil))) (dw_and1 (dt_cmp cd_gt (DE.toB (de_abs (by rfl) T.n_abs (db_of (pv 5)))) (DE.toB (de_pow (de_int).toB (de_int).toB)))))))) (fun _ _ _ _ _ => de_int)))) (DE.toB (DF.toE (df_lst da_nil)))))
  (dss_one (ds_ret (de_if (dt_val (de_of (pv 4))) (DF.toE (df_list (by rfl) T.n_list (db_of (pv 1)))) (de_revT (db_of (pv 1)))))))
  dss_nil)
  (dss_cons (ds_if (dt_cmp cd_lt (db_of (pv 3)) (de_int).toB)
  (dss_one (ds_ret (de_add (db_of (pv 1)) (DE.toB (de_sl (db_of (pv 1)) do_none (do_some de_int))))))
  dss_nil)
  (dss_one (ds_ret (de_if (dt_cmp cd_lt (db_of (pv 3)) (de_int).toB) (de_sl (db_of (pv 1)) (do_some de_int) do_none) (de_tup (da_cons (de_of (pv 1)) da_nil))))))))))))
  dss_nil)
  (dss_cons (ds_set (i := 6) sc__law_bent.nd rfl (by first | exact .inl rfl | exact .inr rfl) (cal_G C__law_draw hr hG (by rfl) (da_cons (de_of (pv 0)) (da_cons (de_len (by rfl) T.n_len (db_of (pv 1))) da_nil))))
  (dss_one (ds_ret (cal_N C__law_instead hr hG (by rfl) 0 (da_cons (de_of (pv 1)) (da_cons (de_of (pv 6)) (da_cons (cal_G C_rc hr hG (by rfl) (da_cons (de_of (pv 0)) (da_cons (de_ix (db_of (pv 1)) (db_of (pv 6))) (da_cons (de_sub (db_of (pv 2)) (de_int).toB) da_nil)))) da_nil)))))))), fun ds q x h => ((fn__law_bent_1_eq ds q x).mp h).2 d⟩
theorem ok__law_bent_2 (F : FnP K "_law_bent" (top 39) [] f fd) (T : Txt K mg) (C_rc : Cal__law_bent_1 P w K mg base) (C__law_any : Cal__law_any P w K mg base) (C__law_draw : Cal__law_draw P w K mg base) (C__law_instead : Cal__law_instead P w K mg base) (C__law_is_integer : Cal__law_is_integer P w K mg base) (C__law_pick : Cal__law_pick P w K mg base) : FnG P w K mg base CX0 7 f fd p__law_bent (spG K "left" false fn__law_bent_2) :=
  okG F sc__law_bent (fun ds q x h => by rw [((fn__law_bent_2_eq ds q x).mp h).1]; rfl) fun cdv A outer s H E d l hr hG => ⟨[], g__law_bent fn__law_bent_1 d, (dss_cons (ds_if (dw_pt (dw_or (dt_not (dt_val (de_isi (T := "tuple") (by rfl) T.n_isinstance (by rfl) T.n_tuple (by decide +kernel) (db_of (pv 1)) isi_tuple))) (dw_or (dt_cmp (cd_eq hr.units) (db_of (pv 1)) (DE.toB (de_tup da_nil))) (dw_or (dt_cmp (cd_eq hr.units) (db_of (pv 2)) (de_int).toB) (dw_or1 (dt_cmp (cd_eq hr.units) (DE.toB (cal_G C__law_draw hr hG (by rfl) (da_cons (de_of (pv 0)) (da_cons de_int da_nil)))) (de_int).toB))))))
  (dss_cons (ds_set (i := 3) sc__law_bent.nd rfl (by first | exact .inl rfl | exact .inr rfl) (cal_G C__law_draw hr hG (by rfl) (da_cons (de_of (pv 0)) (da_cons de_int da_nil))))
  (dss_cons (ds_if (dt_val (cal_N C__law_is_integer hr hG (by rfl) 0 (da_cons (de_of (pv 1)) da_nil)))
  (dss_one (ds_ret (cal_G C__law_pick hr hG (by rfl) (da_cons (de_of (pv 0)) (da_cons (DF.toE (df_lst (da_cons de_int (da_cons (de_neg (db_of (pv 1))) (da_cons (de_mul (de_int).toB (db_of (pv 1))) (da_cons (de_add (db_of (pv 1)) (de_int).toB) (da_cons (de_bool1 (by rfl) T.n_bool (db_of (pv 1))) (da_cons (de_str1 (by rfl) T.n_str (db_of (pv 1))) (da_cons (de_tup (da_cons (de_of (pv 1)) da_nil)) (da_cons (DF.toE (df_lst (da_cons (de_of (pv 1)) da_nil))) (da_cons de_non (da_cons (de_mul (de_int).toB (db_of (pv 1))) da_nil)))))))))))) da_nil)))))
  dss_nil)
  (dss_cons (ds_if (dw_pt (dw_or (dt_cmp (cd_eq hr.units) (db_of (pv 3)) (de_int).toB) (dw_or1 (dt_not (dt_val (de_isi (T := "tuple") (by rfl) T.n_isinstance (by rfl) T.n_tuple (by decide +kernel) (db_of (pv 1)) isi_tuple))))))
  (dss_one (ds_ret (cal_G C__law_any hr hG (by rfl) (da_cons (de_of (pv 0)) (da_cons de_int da_nil)))))
  dss_nil)
  (dss_cons (ds_if (dt_cmp cd_lt (db_of (pv 3)) (de_int).toB)
  (dss_one (ds_ret (DF.toE (df_list (by rfl) T.n_list (db_of (pv 1))))))
  dss_nil)
  (dss_cons (ds_if (dt_cmp cd_lt (db_of (pv 3)) (de_int).toB)
  (dss_one (ds_ret (de_add (db_of (pv 1)) (DE.toB (de_tup (da_cons (cal_G C__law_pick hr hG (by rfl) (da_cons (de_of (pv 0)) (da_cons (DF.toE (df_lst (da_cons (de_tup da_nil) (da_cons de_int (da_cons (de_tup (da_cons de_int (da_cons de_int (da_cons de_int da_nil)))) (da_cons (de_tup (da_cons (de_tup (da_cons de_int (da_cons de_int (da_cons de_int da_nil)))) da_nil)) (da_cons de_non (da_cons de_bl da_nil)))))))) da_nil))) da_nil))))))
  dss_nil)
  (dss_cons (ds_if (dt_cmp cd_lt (db_of (pv 3)) (de_int).toB)
  (dss_cons (ds_set (i := 4) sc__law_bent.nd rfl (by first | exact .inl rfl | exact .inr rfl) (de_cmp (cd_ne hr.units) (DE.toB (DF.toE (df_lc (own := [("x", 5)]) rfl sc__law_bent.nd (di_seq (de_of (pv 1))) (blkOk_by (by rfl)) (fun _ _ _ _ _ => (dgw_name (i := 5) sc__law_bent.nd rfl (by first | exact .inl rfl | exact .inr rfl) (by first | exact .inl rfl | exact .inr rfl))) (fun _ _ _ _ _ => (dts_one (dw_pt (dw_and (dt_val (cal_N C__law_is_integer hr hG (by rfl) 0 (da_cons (de_of (pv 5)) da_nil))) (dw_and1 (dt_cmp cd_gt (DE.toB (de_abs (by rfl) T.n_abs (db_of (pv 5)))) (DE.toB (de_pow (de_int).toB (de_int).toB)))))))) (fun _ _ _ _ _ => de_int)))) (DE.toB (DF.toE (df_lst da_nil)))))
  (dss_one (ds_ret (de_if (dt_val (de_of (pv 4))) (DF.toE (df_list (by rfl) T.n_list (db_of (pv 1)))) (de_revT (db_of (pv 1)))))))
  dss_nil)
  (dss_cons (ds_if (dt_cmp cd_lt (db_of (pv 3)) (de_int).toB)
  (dss_one (ds_ret (de_add (db_of (pv 1)) (DE.toB (de_sl (db_of (pv 1)) do_none (do_some de_int))))))
  dss_nil)
  (dss_one (ds_ret (de_if (dt_cmp cd_lt (db_of (pv 3)) (de_int).toB) (de_sl (db_of (pv 1)) (do_some de_int) do_none) (de_tup (da_cons (de_of (pv 1)) da_nil))))))))))))
  dss_nil)
  (dss_cons (ds_set (i := 6) sc__law_bent.nd rfl (by first | exact .inl rfl | exact .inr rfl) (cal_G C__law_draw hr hG (by rfl) (da_cons (de_of (pv 0)) (da_cons (de_len (by rfl) T.n_len (db_of (pv 1))) da_nil))))
  (dss_one (ds_ret (cal_N C__law_instead hr hG (by rfl) 0 (da_cons (de_of (pv 1)) (da_cons (de_of (pv 6)) (da_cons (cal_G C_rc hr hG (by rfl) (da_cons (de_of (pv 0)) (da_cons (de_ix (db_of (pv 1)) (db_of (pv 6))) (da_cons (de_sub (db_of (pv 2)) (de_int).toB) da_nil)))) da_nil)))))))), fun ds q x h => ((fn__law_bent_2_eq ds q x).mp h).2 d⟩
theorem ok__law_parted (F : FnP K "_law_parted" (top 40) [] f fd) (T : Txt K mg)  : FnG P w K mg base CX0 1 f fd p__law_parted (spN K false fn__law_parted) :=
  okN F sc__law_parted (fun ds q x h => ((fn__law_parted_eq ds q x).mp h).1) fun cdv A outer s H E hr hG => ⟨[], g__law_parted, (dss_cons (ds_par3 (i := 1) (j := 2) (l := 3) rfl sc__law_parted.nd rfl rfl rfl rfl rfl rfl (da_cons (de_of (pv 0)) (da_cons de_int (da_cons de_int da_nil))))
  (dss_cons (ds_while PassesOwn.never (dt_cmp cd_le (DE.toB (de_mul (db_of (pv 3)) (db_of (pv 3)))) (DE.toB (de_abs (by rfl) T.n_abs (db_of (pv 1)))))
  (dss_cons (ds_while PassesOwn.never (dt_cmp (cd_eq hr.units) (DE.toB (de_mod (DE.toB (de_toInt (by rfl) T.n_int (db_of (pv 1)))) (DE.toB (de_mul (db_of (pv 3)) (db_of (pv 3)))))) (de_int).toB)
  (dss_one (ds_par2 (i := 1) (j := 2) rfl sc__law_parted.nd rfl rfl rfl rfl (da_cons (de_div (db_of (pv 1)) (DE.toB (de_mul (db_of (pv 3)) (db_of (pv 3))))) (da_cons (de_mul (db_of (pv 2)) (db_of (pv 3))) da_nil)))))
  (dss_one (ds_set (i := 3) sc__law_parted.nd rfl (by first | exact .inl rfl | exact .inr rfl) (de_add (db_of (pv 3)) (de_int).toB)))))
  (dss_one (ds_ret (de_tup (da_cons (de_of (pv 1)) (da_cons (de_of (pv 2)) da_nil))))))), fun ds q x h => ((fn__law_parted_eq ds q x).mp h).2⟩
theorem ok__law_made (F : FnP K "_law_made" (top 41) [] f fd) (T : Txt K mg) (C__law_common : Cal__law_common P w K mg base) : FnG P w K mg base CX0 2 f fd p__law_made (spN K false fn__law_made) :=
  okN F sc__law_made (fun ds q x h => ((fn__law_made_eq ds q x).mp h).1) fun cdv A outer s H E hr hG => ⟨[], g__law_made, (dss_cons (ds_if (dt_cmp (cd_eq hr.units) (db_of (pv 3)) (de_int).toB)
  (dss_one (ds_par2 (i := 0) (j := 1) rfl sc__law_made.nd rfl rfl rfl rfl (da_cons (de_add (db_of (pv 0)) (db_of (pv 1))) (da_cons de_int da_nil))))
  dss_nil)
  (dss_cons (ds_set (i := 4) sc__law_made.nd rfl (by first | exact .inl rfl | exact .inr rfl) (de_mul (DE.toB (cal_N C__law_common hr hG (by rfl) 0 (da_cons (cal_N C__law_common hr hG (by rfl) 0 (da_cons (de_of (pv 0)) (da_cons (de_of (pv 1)) da_nil))) (da_cons (de_of (pv 2)) da_nil)))) (DE.toB (de_if (dt_cmp cd_gt (db_of (pv 2)) (de_int).toB) de_int (de_neg (de_int).toB)))))
  (dss_one (ds_ret (de_tup (da_cons (de_div (db_of (pv 0)) (db_of (pv 4))) (da_cons (de_div (db_of (pv 1)) (db_of (pv 4))) (da_cons (de_div (db_of (pv 2)) (db_of (pv 4))) (da_cons (de_if (dt_cmp (cd_ne hr.units) (db_of (pv 1)) (de_int).toB) (de_of (pv 3)) de_int) da_nil))))))))), fun ds q x h => ((fn__law_made_eq ds q x).mp h).2⟩
theorem ok__law_fraction (F : FnP K "_law_fraction" (top 42) [] f fd) (T : Txt K mg) (C__law_made : Cal__law_made P w K mg base) : FnG P w K mg base CX0 3 f fd p__law_fraction (spN K false fn__law_fraction) :=
  okN F sc__law_fraction (fun ds q x h => ((fn__law_fraction_eq ds q x).mp h).1) fun cdv A outer s H E hr hG => ⟨[], g__law_fraction, (dss_one (ds_ret (cal_N C__law_made hr hG (by rfl) 0 (da_cons (de_of (pv 0)) (da_cons de_int (da_cons (de_of (pv 1)) (da_cons de_int da_nil))))))), fun ds q x h => ((fn__law_fraction_eq ds q x).mp h).2⟩
theorem ok__law_is_number (F : FnP K "_law_is_number" (top 43) [] f fd) (T : Txt K mg) (C__law_common : Cal__law_common P w K mg base) (C__law_is_integer : Cal__law_is_integer P w K mg base) (C__law_is_lean : Cal__law_is_lean P w K mg base) : FnG P w K mg base CX0 2 f fd p__law_is_number (spN K false fn__law_is_number) :=
  okN F sc__law_is_number (fun ds q x h => ((fn__law_is_number_eq ds q x).mp h).1) fun cdv A outer s H E hr hG => ⟨[], g__law_is_number, (dss_cons (ds_if (dw_pt (dw_or (dt_not (dt_val (de_isi (T := "tuple") (by rfl) T.n_isinstance (by rfl) T.n_tuple (by decide +kernel) (db_of (pv 0)) isi_tuple))) (dw_or (dt_cmp (cd_ne hr.units) (DE.toB (de_len (by rfl) T.n_len (db_of (pv 0)))) (de_int).toB) (dw_or1 (dt_cmp (cd_ne hr.units) (DE.toB (DF.toE (df_lc (own := [("x", 1)]) rfl sc__law_is_number.nd (di_seq (de_of (pv 0))) (blkOk_by (by rfl)) (fun _ _ _ _ _ => (dgw_name (i := 1) sc__law_is_number.nd rfl (by first | exact .inl rfl | exact .inr rfl) (by first | exact .inl rfl | exact .inr rfl))) (fun _ _ _ _ _ => (dts_one (dt_not (dt_val (cal_N C__law_is_integer hr hG (by rfl) 0 (da_cons (de_of (pv 1)) da_nil)))))) (fun _ _ _ _ _ => de_int)))) (DE.toB (DF.toE (df_lst da_nil))))))))
  (dss_one (ds_ret de_bl))
  dss_nil)
  (dss_cons (ds_asg (de_of (pv 0)) (dg_seq rfl (dgs_cons (dg_name (i := 2) sc__law_is_number.nd rfl (by first | exact .inl rfl | exact .inr rfl)) (dgs_cons (dg_name (i := 3) sc__law_is_number.nd rfl (by first | exact .inl rfl | exact .inr rfl)) (dgs_cons (dg_name (i := 4) sc__law_is_number.nd rfl (by first | exact .inl rfl | exact .inr rfl)) (dgs_cons (dg_name (i := 5) sc__law_is_number.nd rfl (by first | exact .inl rfl | exact .inr rfl)) dgs_nil))))))
  (dss_cons (ds_if (dw_pt (dw_or (dt_cmp cd_lt (db_of (pv 4)) (de_int).toB) (dw_or1 (dt_cmp (cd_ne hr.units) (DE.toB (cal_N C__law_common hr hG (by rfl) 0 (da_cons (cal_N C__law_common hr hG (by rfl) 0 (da_cons (de_of (pv 2)) (da_cons (de_of (pv 3)) da_nil))) (da_cons (de_of (pv 4)) da_nil)))) (de_int).toB))))
  (dss_one (ds_ret de_bl))
  dss_nil)
  (dss_one (ds_ret (de_if (dt_cmp (cd_eq hr.units) (db_of (pv 3)) (de_int).toB) (de_cmp (cd_eq hr.units) (db_of (pv 5)) (de_int).toB) (de_and (de_cmp (cd_ne hr.units) (db_of (pv 5)) (de_int).toB) (de_and (de_cmp cd_le (DE.toB (de_abs (by rfl) T.n_abs (db_of (pv 5)))) (DE.toB (de_pow (de_int).toB (de_int).toB))) (de_one (cal_N C__law_is_lean hr hG (by rfl) 0 (da_cons (de_of (pv 5)) da_nil))))))))))), fun ds q x h => ((fn__law_is_number_eq ds q x).mp h).2⟩
theorem ok__law_asked (F : FnP K "_law_asked" (top 44) [] f fd) (T : Txt K mg) (C_number_of : Cal_number_of P w K mg base) (C_root_of : Cal_root_of P w K mg base) : FnG P w K mg base CX0 6 f fd p__law_asked (spN K false fn__law_asked) :=
  okN F sc__law_asked (fun ds q x h => ((fn__law_asked_eq ds q x).mp h).1) fun cdv A outer s H E hr hG => ⟨[], g__law_asked, (dss_one (ds_try rfl rfl sc__law_asked.nd (fun E pn xe tk hp => (dss_cons (ds_if (dt_cmp (cd_eq hr.units) (DE.toB (de_len (by rfl) T.n_len (db_of (pv 0)))) (de_int).toB)
  (dss_one (ds_ret (de_tup (da_cons de_str (da_cons (de_if (dt_cmp (cd_eq hr.units) (db_of (pv 1)) (de_int).toB) (calX_N C_root_of tk hr hG (by rfl) 0 (da_cons (de_ix (db_of (pv 0)) (de_int).toB) (da_cons (de_ix (db_of (pv 0)) (de_int).toB) da_nil))) (calX_K0 C_root_of tk hr hG (by rfl) 0 ["bottom", "top"] [1, 0] (dk_cons (de_ix (db_of (pv 0)) (de_int).toB) (dk_cons (de_ix (db_of (pv 0)) (de_int).toB) dk_nil)))) da_nil)))))
  dss_nil)
  (dss_cons (ds_asg (de_of (pv 0)) (dg_seq rfl (dgs_cons (dg_name (i := 2) sc__law_asked.nd rfl (by first | exact .inl rfl | exact .inr rfl)) (dgs_cons (dg_name (i := 3) sc__law_asked.nd rfl (by first | exact .inl rfl | exact .inr rfl)) (dgs_cons (dg_name (i := 4) sc__law_asked.nd rfl (by first | exact .inl rfl | exact .inr rfl)) (dgs_cons (dg_name (i := 5) sc__law_asked.nd rfl (by first | exact .inl rfl | exact .inr rfl)) dgs_nil))))))
  (dss_one (ds_ret (de_tup (da_cons de_str (da_cons (de_if (dt_cmp (cd_eq hr.units) (db_of (pv 1)) (de_int).toB) (calX_N C_number_of tk hr hG (by rfl) 0 (da_cons (de_of (pv 2)) (da_cons (de_of (pv 3)) (da_cons (de_of (pv 4)) (da_cons (de_of (pv 5)) da_nil))))) (calX_K0 C_number_of tk hr hG (by rfl) 0 ["d", "s", "q", "p"] [3, 2, 1, 0] (dk_cons (de_of (pv 5)) (dk_cons (de_of (pv 4)) (dk_cons (de_of (pv 3)) (dk_cons (de_of (pv 2)) dk_nil)))))) da_nil))))))))
  (HC.cons (x := "BadNumber") (C := He.ga K "BadNumber") (i := 6) (mt := fun n => isErr n "BadNumber") (hv := fun n t => (.tup [(.str "bad"), t, (.bl (isErr n "StepError"))])) ⟨by rfl, by decide +kernel, .inl (T.cg _ (by decide +kernel))⟩ rfl rfl (fun n hn => (T.exm n hn _ (by decide +kernel)).1) (fun n hn a dx oe pn t hz hf => (he_tup (hes_cons (he_k pe_str fun _ => .str _) (hes_cons (he_thing (T.err n hn).x hz hf (pv 6)) (hes_cons (he_isa (T.err n hn).x hz hf (T.exm n hn "StepError" (by decide +kernel)).2 (by rfl) T.n_isinstance (pv 6) (pe_glob (by rfl) (T.cg "StepError" (by decide +kernel)) rfl)) hes_nil)))))
  HC.nil))), fun ds q x h => ((fn__law_asked_eq ds q x).mp h).2⟩
theorem ok__law_due (F : FnP K "_law_due" (top 45) [] f fd) (T : Txt K mg) (C__law_is_integer : Cal__law_is_integer P w K mg base) (C__law_made : Cal__law_made P w K mg base) (C__law_parted : Cal__law_parted P w K mg base) : FnG P w K mg base CX0 3 f fd p__law_due (spN K false fn__law_due) :=
  okN F sc__law_due (fun ds q x h => ((fn__law_due_eq ds q x).mp h).1) fun cdv A outer s H E hr hG => ⟨[], g__law_due, (dss_cons (ds_if (dw_pt (dw_or (dt_cmp (cd_ne hr.units) (DE.toB (DF.toE (df_lc (own := [("x", 1)]) rfl sc__law_due.nd (di_seq (de_of (pv 0))) (blkOk_by (by rfl)) (fun _ _ _ _ _ => (dgw_name (i := 1) sc__law_due.nd rfl (by first | exact .inl rfl | exact .inr rfl) (by first | exact .inl rfl | exact .inr rfl))) (fun _ _ _ _ _ => (dts_one (dt_not (dt_val (cal_N C__law_is_integer hr hG (by rfl) 0 (da_cons (de_of (pv 1)) da_nil)))))) (fun _ _ _ _ _ => de_int)))) (DE.toB (DF.toE (df_lst da_nil)))) (dw_or (dt_cmp (cd_eq hr.units) (DE.toB (de_ix (db_of (pv 0)) (DE.toB (de_neg (de_int).toB)))) (de_int).toB) (dw_or1 (dw_pt (dw_and (dt_cmp (cd_eq hr.units) (DE.toB (de_len (by rfl) T.n_len (db_of (pv 0)))) (de_int).toB) (dw_and1 (dt_cmp (cd_eq hr.units) (DE.toB (de_ix (db_of (pv 0)) (de_int).toB)) (de_int).toB))))))))
  (dss_one (ds_ret (de_tup (da_cons de_str (da_cons (de_of (pv 0)) (da_cons de_bl da_nil))))))
  dss_nil)
  (dss_cons (ds_if (dt_cmp (cd_eq hr.units) (DE.toB (de_len (by rfl) T.n_len (db_of (pv 0)))) (de_int).toB)
  (dss_cons (ds_asg (cal_N C__law_parted hr hG (by rfl) 0 (da_cons (de_ix (db_of (pv 0)) (de_int).toB) da_nil)) (dg_seq rfl (dgs_cons (dg_name (i := 2) sc__law_due.nd rfl (by first | exact .inl rfl | exact .inr rfl)) (dgs_cons (dg_name (i := 3) sc__law_due.nd rfl (by first | exact .inl rfl | exact .inr rfl)) dgs_nil))))
  (dss_one (ds_ret (de_tup (da_cons de_str (da_cons (cal_N C__law_made hr hG (by rfl) 0 (da_cons (de_ix (db_of (pv 0)) (de_int).toB) (da_cons (de_mul (DE.toB (de_ix (db_of (pv 0)) (de_int).toB)) (db_of (pv 3))) (da_cons (de_ix (db_of (pv 0)) (de_int).toB) (da_cons (de_of (pv 2)) da_nil))))) da_nil))))))
  dss_nil)
  (dss_cons (ds_asg (de_of (pv 0)) (dg_seq rfl (dgs_cons (dg_name (i := 4) sc__law_due.nd rfl (by first | exact .inl rfl | exact .inr rfl)) (dgs_cons (dg_name (i := 5) sc__law_due.nd rfl (by first | exact .inl rfl | exact .inr rfl)) dgs_nil))))
  (dss_cons (ds_if (dt_cmp (cd_eq hr.units) (db_of (pv 4)) (de_int).toB)
  (dss_one (ds_ret (de_tup (da_cons de_str (da_cons (de_tup (da_cons de_int (da_cons de_int (da_cons de_int (da_cons de_int da_nil))))) da_nil)))))
  dss_nil)
  (dss_cons (ds_asg (cal_N C__law_parted hr hG (by rfl) 0 (da_cons (de_mul (db_of (pv 4)) (db_of (pv 5))) da_nil)) (dg_seq rfl (dgs_cons (dg_name (i := 2) sc__law_due.nd rfl (by first | exact .inl rfl | exact .inr rfl)) (dgs_cons (dg_name (i := 3) sc__law_due.nd rfl (by first | exact .inl rfl | exact .inr rfl)) dgs_nil))))
  (dss_one (ds_ret (de_tup (da_cons de_str (da_cons (cal_N C__law_made hr hG (by rfl) 0 (da_cons de_int (da_cons (de_of (pv 3)) (da_cons (de_abs (by rfl) T.n_abs (db_of (pv 5))) (da_cons (de_of (pv 2)) da_nil))))) da_nil)))))))))), fun ds q x h => ((fn__law_due_eq ds q x).mp h).2⟩
theorem ok__law_wide (F : FnP K "_law_wide" (top 46) [] f fd) (T : Txt K mg) (C__law_draw : Cal__law_draw P w K mg base) (C__law_great : Cal__law_great P w K mg base) (C__law_pick : Cal__law_pick P w K mg base) : FnG P w K mg base CX0 3 f fd p__law_wide (spG K "left" false fn__law_wide) :=
  okG F sc__law_wide (fun ds q x h => by rw [((fn__law_wide_eq ds q x).mp h).1]; rfl) fun cdv A outer s H E d l hr hG => ⟨[], g__law_wide d, (dss_cons (ds_set (i := 1) sc__law_wide.nd rfl (by first | exact .inl rfl | exact .inr rfl) (cal_G C__law_pick hr hG (by rfl) (da_cons (de_of (pv 0)) (da_cons (DF.toE (df_lst (da_cons de_int (da_cons de_int (da_cons de_int (da_cons (de_pow (de_int).toB (de_int).toB) (da_cons (de_pow (de_int).toB (de_int).toB) da_nil))))))) da_nil))))
  (dss_cons (ds_par2 (i := 2) (j := 3) rfl sc__law_wide.nd rfl rfl rfl rfl (da_cons (de_mul (DE.toB (cal_G C__law_great hr hG (by rfl) (da_cons (de_of (pv 0)) (da_cons (de_of (pv 1)) da_nil)))) (DE.toB (cal_G C__law_pick hr hG (by rfl) (da_cons (de_of (pv 0)) (da_cons (DF.toE (df_lst (da_cons de_int (da_cons (de_neg (de_int).toB) da_nil)))) da_nil))))) (da_cons (de_mul (DE.toB (cal_G C__law_great hr hG (by rfl) (da_cons (de_of (pv 0)) (da_cons (de_of (pv 1)) da_nil)))) (DE.toB (cal_G C__law_pick hr hG (by rfl) (da_cons (de_of (pv 0)) (da_cons (DF.toE (df_lst (da_cons de_int (da_cons (de_neg (de_int).toB) (da_cons de_int da_nil))))) da_nil))))) da_nil)))
  (dss_cons (ds_set (i := 4) sc__law_wide.nd rfl (by first | exact .inl rfl | exact .inr rfl) (de_mul (DE.toB (de_add (de_int).toB (DE.toB (cal_G C__law_great hr hG (by rfl) (da_cons (de_of (pv 0)) (da_cons (cal_G C__law_pick hr hG (by rfl) (da_cons (de_of (pv 0)) (da_cons (DF.toE (df_lst (da_cons de_int (da_cons de_int (da_cons de_int (da_cons (de_of (pv 1)) da_nil)))))) da_nil))) da_nil)))))) (DE.toB (cal_G C__law_pick hr hG (by rfl) (da_cons (de_of (pv 0)) (da_cons (DF.toE (df_lst (da_cons de_int (da_cons de_int (da_cons (de_neg (de_int).toB) da_nil))))) da_nil))))))
  (dss_cons (ds_par2 (i := 5) (j := 6) rfl sc__law_wide.nd rfl rfl rfl rfl (da_cons (de_add (de_int).toB (DE.toB (cal_G C__law_draw hr hG (by rfl) (da_cons (de_of (pv 0)) (da_cons (cal_G C__law_pick hr hG (by rfl) (da_cons (de_of (pv 0)) (da_cons (DF.toE (df_lst (da_cons de_int (da_cons de_int (da_cons de_int (da_cons (de_pow (de_int).toB (de_int).toB) da_nil)))))) da_nil))) da_nil))))) (da_cons (de_add (de_int).toB (DE.toB (cal_G C__law_draw hr hG (by rfl) (da_cons (de_of (pv 0)) (da_cons (cal_G C__law_pick hr hG (by rfl) (da_cons (de_of (pv 0)) (da_cons (DF.toE (df_lst (da_cons de_int (da_cons de_int (da_cons de_int da_nil))))) da_nil))) da_nil))))) da_nil)))
  (dss_cons (ds_set (i := 7) sc__law_wide.nd rfl (by first | exact .inl rfl | exact .inr rfl) (de_add (de_int).toB (DE.toB (cal_G C__law_draw hr hG (by rfl) (da_cons (de_of (pv 0)) (da_cons de_int da_nil))))))
  (dss_one (ds_ret (de_tup (da_cons (de_mul (db_of (pv 2)) (db_of (pv 7))) (da_cons (de_mul (db_of (pv 3)) (db_of (pv 7))) (da_cons (de_mul (db_of (pv 4)) (db_of (pv 7))) (da_cons (de_mul (DE.toB (de_mul (DE.toB (de_mul (db_of (pv 5)) (db_of (pv 6)))) (db_of (pv 6)))) (DE.toB (cal_G C__law_pick hr hG (by rfl) (da_cons (de_of (pv 0)) (da_cons (DF.toE (df_lst (da_cons de_int (da_cons de_int (da_cons (de_neg (de_int).toB) da_nil))))) da_nil))))) da_nil)))))))))))), fun ds q x h => ((fn__law_wide_eq ds q x).mp h).2 d⟩
theorem ok__law_are_squares_right (F : FnP K "_law_are_squares_right" (top 47) [] f fd) (T : Txt K mg) (C__law_draw : Cal__law_draw P w K mg base) (C__law_made : Cal__law_made P w K mg base) (C__law_near : Cal__law_near P w K mg base) (C__law_pick : Cal__law_pick P w K mg base) (C_is_number : Cal_is_number P w K mg base) (C_number_of : Cal_number_of P w K mg base) (C_root_of : Cal_root_of P w K mg base) : FnG P w K mg base CX0 6 f fd p__law_are_squares_right (spG K "left" false fn__law_are_squares_right) :=
  okG F sc__law_are_squares_right (fun ds q x h => by rw [((fn__law_are_squares_right_eq ds q x).mp h).1]; rfl) fun cdv A outer s H E d l hr hG => ⟨[], g__law_are_squares_right d, (dss_cons (ds_set (i := 1) sc__law_are_squares_right.nd rfl (by first | exact .inl rfl | exact .inr rfl) (cal_G C__law_pick hr hG (by rfl) (da_cons (de_of (pv 0)) (da_cons (DF.toE (df_lst (da_cons de_int (da_cons de_int (da_cons de_int (da_cons (de_if (dt_cmp (cd_eq hr.units) (DE.toB (cal_G C__law_draw hr hG (by rfl) (da_cons (de_of (pv 0)) (da_cons de_int da_nil)))) (de_int).toB) de_int de_int) (da_cons (de_if (dt_cmp (cd_eq hr.units) (DE.toB (cal_G C__law_draw hr hG (by rfl) (da_cons (de_of (pv 0)) (da_cons de_int da_nil)))) (de_int).toB) de_int de_int) da_nil))))))) da_nil))))
  (dss_cons (ds_set (i := 1) sc__law_are_squares_right.nd rfl (by first | exact .inl rfl | exact .inr rfl) (de_if (dt_cmp (cd_eq hr.units) (DE.toB (cal_G C__law_draw hr hG (by rfl) (da_cons (de_of (pv 0)) (da_cons de_int da_nil)))) (de_int).toB) de_int (de_of (pv 1))))
  (dss_cons (ds_set (i := 2) sc__law_are_squares_right.nd rfl (by first | exact .inl rfl | exact .inr rfl) (cal_G C__law_pick hr hG (by rfl) (da_cons (de_of (pv 0)) (da_cons (de_if (dt_cmp cd_lt (db_of (pv 1)) (de_int).toB) (DF.toE (df_lst (da_cons de_int (da_cons (de_neg (de_int).toB) (da_cons de_int (da_cons (de_neg (de_int).toB) (da_cons de_int da_nil))))))) (DF.toE (df_lst (da_cons de_int (da_cons (de_neg (de_int).toB) da_nil))))) da_nil))))
  (dss_cons (ds_asg (de_tup (da_cons (cal_G C__law_near hr hG (by rfl) (da_cons (de_of (pv 0)) (da_cons de_int da_nil))) (da_cons (cal_G C__law_near hr hG (by rfl) (da_cons (de_of (pv 0)) (da_cons de_int da_nil))) (da_cons (de_add (de_int).toB (DE.toB (cal_G C__law_draw hr hG (by rfl) (da_cons (de_of (pv 0)) (da_cons de_int da_nil))))) (da_cons (de_mul (DE.toB (de_mul (db_of (pv 1)) (db_of (pv 1)))) (db_of (pv 2))) da_nil))))) (dg_seq rfl (dgs_cons (dg_name (i := 3) sc__law_are_squares_right.nd rfl (by first | exact .inl rfl | exact .inr rfl)) (dgs_cons (dg_name (i := 4) sc__law_are_squares_right.nd rfl (by first | exact .inl rfl | exact .inr rfl)) (dgs_cons (dg_name (i := 5) sc__law_are_squares_right.nd rfl (by first | exact .inl rfl | exact .inr rfl)) (dgs_cons (dg_name (i := 6) sc__law_are_squares_right.nd rfl (by first | exact .inl rfl | exact .inr rfl)) dgs_nil))))))
  (dss_cons (ds_set (i := 7) sc__law_are_squares_right.nd rfl (by first | exact .inl rfl | exact .inr rfl) (cal_N C__law_made hr hG (by rfl) 0 (da_cons (de_of (pv 3)) (da_cons (de_mul (db_of (pv 4)) (db_of (pv 1))) (da_cons (de_of (pv 5)) (da_cons (de_of (pv 2)) da_nil))))))
  (dss_cons (ds_if (dw_pt (dw_or (dt_cmp (cd_ne hr.units) (DE.toB (de_repr hG hr.units (by rfl) T.n_repr (DE.toB (calX0_N C_number_of hr hG (by rfl) 0 (da_cons (de_of (pv 3)) (da_cons (de_of (pv 4)) (da_cons (de_of (pv 5)) (da_cons (de_of (pv 6)) da_nil)))))))) (DE.toB (de_repr hG hr.units (by rfl) T.n_repr (db_of (pv 7))))) (dw_or1 (dt_cmp cd_isNot2 (DE.toB (cal_N C_is_number hr hG (by rfl) 0 (da_cons (de_tup (da_cons de_int (da_cons de_int (da_cons de_int (da_cons (de_of (pv 6)) da_nil))))) da_nil))) (de_bl).toB))))
  (dss_one (ds_ret de_bl))
  dss_nil)
  (dss_cons (ds_set (i := 8) sc__law_are_squares_right.nd rfl (by first | exact .inl rfl | exact .inr rfl) (cal_G C__law_pick hr hG (by rfl) (da_cons (de_of (pv 0)) (da_cons (DF.toE (df_lst (da_cons de_int (da_cons de_int (da_cons de_int (da_cons de_int da_nil)))))) da_nil))))
  (dss_cons (ds_set (i := 9) sc__law_are_squares_right.nd rfl (by first | exact .inl rfl | exact .inr rfl) (cal_G C__law_pick hr hG (by rfl) (da_cons (de_of (pv 0)) (da_cons (DF.toE (df_lst (da_cons (de_add (DE.toB (de_pow (de_int).toB (de_int).toB)) (de_int).toB) (da_cons (de_sub (DE.toB (de_neg (DE.toB (de_pow (de_int).toB (de_int).toB)))) (de_int).toB) (da_cons (de_add (DE.toB (de_pow (de_int).toB (de_int).toB)) (de_int).toB) (da_cons (de_sub (DE.toB (de_neg (DE.toB (de_pow (de_int).toB (de_int).toB)))) (de_int).toB) (da_cons (de_add (DE.toB (de_pow (de_int).toB (de_int).toB)) (de_int).toB) da_nil))))))) da_nil))))
  (dss_cons (ds_set (i := 10) sc__law_are_squares_right.nd rfl (by first | exact .inl rfl | exact .inr rfl) (de_tup (da_cons (calX0_N C_root_of hr hG (by rfl) 0 (da_cons (de_mul (db_of (pv 8)) (db_of (pv 8))) (da_cons de_int da_nil))) (da_cons (calX0_K0 C_root_of hr hG (by rfl) 0 ["bottom", "top"] [1, 0] (dk_cons (de_mul (db_of (pv 8)) (db_of (pv 8))) (dk_cons de_int dk_nil))) (da_cons (cal_N C_is_number hr hG (by rfl) 0 (da_cons (de_tup (da_cons de_int (da_cons de_int (da_cons de_int (da_cons (de_of (pv 9)) da_nil))))) da_nil)) (da_cons (cal_N C_is_number hr hG (by rfl) 0 (da_cons (de_tup (da_cons (de_of (pv 3)) (da_cons de_int (da_cons de_int (da_cons (de_of (pv 9)) da_nil))))) da_nil)) da_nil))))))
  (dss_one (ds_ret (de_cmp (cd_eq hr.units) (DE.toB (de_repr hG hr.units (by rfl) T.n_repr (db_of (pv 10)))) (DE.toB (de_repr hG hr.units (by rfl) T.n_repr (DE.toB (de_tup (da_cons (de_tup (da_cons (de_of (pv 8)) (da_cons de_int (da_cons de_int (da_cons de_int da_nil))))) (da_cons (de_tup (da_cons de_int (da_cons de_int (da_cons (de_of (pv 8)) (da_cons de_int da_nil))))) (da_cons de_bl (da_cons de_bl da_nil)))))))))))))))))))), fun ds q x h => ((fn__law_are_squares_right_eq ds q x).mp h).2 d⟩
theorem ok__law_for_root (F : FnP K "_law_for_root" (top 48) [] f fd) (T : Txt K mg) (C__law_draw : Cal__law_draw P w K mg base) (C__law_near : Cal__law_near P w K mg base) (C__law_pick : Cal__law_pick P w K mg base) : FnG P w K mg base CX0 3 f fd p__law_for_root (spG K "left" false fn__law_for_root) :=
  okG F sc__law_for_root (fun ds q x h => by rw [((fn__law_for_root_eq ds q x).mp h).1]; rfl) fun cdv A outer s H E d l hr hG => ⟨[], g__law_for_root d, (dss_cons (ds_set (i := 1) sc__law_for_root.nd rfl (by first | exact .inl rfl | exact .inr rfl) (cal_G C__law_pick hr hG (by rfl) (da_cons (de_of (pv 0)) (da_cons (DF.toE (df_lst (da_cons de_int (da_cons de_int (da_cons de_int (da_cons de_int da_nil)))))) da_nil))))
  (dss_cons (ds_par2 (i := 2) (j := 3) rfl sc__law_for_root.nd rfl rfl rfl rfl (da_cons (de_add (de_int).toB (DE.toB (cal_G C__law_draw hr hG (by rfl) (da_cons (de_of (pv 0)) (da_cons de_int da_nil))))) (da_cons (de_add (de_int).toB (DE.toB (cal_G C__law_draw hr hG (by rfl) (da_cons (de_of (pv 0)) (da_cons de_int da_nil))))) da_nil)))
  (dss_one (ds_ret (de_tup (da_cons (de_mul (DE.toB (de_mul (DE.toB (cal_G C__law_near hr hG (by rfl) (da_cons (de_of (pv 0)) (da_cons (de_of (pv 1)) da_nil)))) (db_of (pv 2)))) (db_of (pv 2))) (da_cons (de_mul (DE.toB (de_mul (DE.toB (de_mul (DE.toB (de_add (de_int).toB (DE.toB (cal_G C__law_draw hr hG (by rfl) (da_cons (de_of (pv 0)) (da_cons (de_of (pv 1)) da_nil)))))) (db_of (pv 3)))) (db_of (pv 3)))) (DE.toB (cal_G C__law_pick hr hG (by rfl) (da_cons (de_of (pv 0)) (da_cons (DF.toE (df_lst (da_cons de_int (da_cons de_int (da_cons (de_neg (de_int).toB) da_nil))))) da_nil))))) da_nil))))))), fun ds q x h => ((fn__law_for_root_eq ds q x).mp h).2 d⟩
theorem ok_law (F : FnP K "law" (top 49) [] f fd) (T : Txt K mg) (C__law_deck : Cal__law_deck P w K mg base) (C__law_any : Cal__law_any P w K mg base) (C__law_are_squares_right : Cal__law_are_squares_right P w K mg base) (C__law_asked : Cal__law_asked P w K mg base) (C__law_bent : Cal__law_bent P w K mg base) (C__law_draw : Cal__law_draw P w K mg base) (C__law_due : Cal__law_due P w K mg base) (C__law_for_root : Cal__law_for_root P w K mg base) (C__law_fraction : Cal__law_fraction P w K mg base) (C__law_instead : Cal__law_instead P w K mg base) (C__law_is_number : Cal__law_is_number P w K mg base) (C__law_pick : Cal__law_pick P w K mg base) (C__law_wide : Cal__law_wide P w K mg base) (C_is_number : Cal_is_number P w K mg base) (C_times : Cal_times P w K mg base) (G : ∀ a d, g_law d (lawStart 11 a d) lawEnds) : FnG P w K mg base CX0 8 f fd p_law (spLaw K) := by
  refine okLaw2 (nm := "left") (z := 13735001) F sc_law rfl (by decide) ⟨by decide, by decide⟩ (fun cdv A outer s H E hr hG => ?_) fun cdv A outer s H E a d l hr hG => ⟨[], g_law d, ?_, G a d⟩
  · obtain ⟨fD, fdD, h1, h2, h3, h4, _⟩ := C__law_deck.ex
    obtain ⟨dvs, dss, b1, b2, b3⟩ := h4 [] (List.mem_cons_self ..)
    have e1 := b3 fun _ => none
    cases dvs with
    | cons v vs => cases e1
    | nil =>
      cases b2
      exact ps_set (i := 1) sc_law.nd rfl (by first | exact .inl rfl | exact .inr rfl) (pe_callG h1 (hr.mono (by decide)) hG (by rfl) h2 h3 b1 .nil passN (pa_cons (pv 0) (pa_cons pe_int pa_nil))) rfl (by first | exact .inl rfl | exact .inr rfl)
  · exact (dss_cons (ds_if (dt_not (dt_val (cal_G C__law_are_squares_right hr hG (by rfl) (da_cons (de_of (pv 1)) da_nil))))
  (dss_one (ds_ret de_bl))
  dss_nil)
  (dss_cons (ds_for PassesOwn.never rfl (di_range1 (by rfl) T.n_range de_int) (dg_name (i := 2) sc_law.nd rfl (by first | exact .inl rfl | exact .inr rfl))
  (dss_cons (ds_set (i := 3) sc_law.nd rfl (by first | exact .inl rfl | exact .inr rfl) (cal_G C__law_wide hr hG (by rfl) (da_cons (de_of (pv 1)) da_nil)))
  (dss_cons (ds_set (i := 4) sc_law.nd rfl (by first | exact .inl rfl | exact .inr rfl) (de_ix (DE.toB (cal_N C__law_due hr hG (by rfl) 0 (da_cons (de_of (pv 3)) da_nil))) (de_int).toB))
  (dss_cons (ds_if (dw_pt (dw_or (dt_cmp (cd_ne hr.units) (DE.toB (de_repr hG hr.units (by rfl) T.n_repr (DE.toB (de_tup (da_cons (cal_N C__law_asked hr hG (by rfl) 0 (da_cons (de_of (pv 3)) (da_cons de_int da_nil))) (da_cons (cal_N C__law_asked hr hG (by rfl) 0 (da_cons (de_of (pv 3)) (da_cons de_int da_nil))) da_nil)))))) (DE.toB (de_repr hG hr.units (by rfl) T.n_repr (DE.toB (de_repT (DE.toB (de_tup (da_cons (cal_N C__law_due hr hG (by rfl) 0 (da_cons (de_of (pv 3)) da_nil)) da_nil))) (de_int).toB))))) (dw_or1 (dt_cmp cd_isNot2 (DE.toB (cal_N C_is_number hr hG (by rfl) 0 (da_cons (de_of (pv 4)) da_nil))) (de_bl).toB))))
  (dss_one (ds_ret de_bl))
  dss_nil)
  (dss_cons (ds_set (i := 5) sc_law.nd rfl (by first | exact .inl rfl | exact .inr rfl) (cal_G C__law_for_root hr hG (by rfl) (da_cons (de_of (pv 1)) da_nil)))
  (dss_cons (ds_set (i := 6) sc_law.nd rfl (by first | exact .inl rfl | exact .inr rfl) (cal_N C__law_asked hr hG (by rfl) 0 (da_cons (de_of (pv 5)) (da_cons (cal_G C__law_draw hr hG (by rfl) (da_cons (de_of (pv 1)) (da_cons de_int da_nil))) da_nil))))
  (dss_cons (ds_if (dw_pt (dw_or (dt_cmp (cd_ne hr.units) (DE.toB (de_repr hG hr.units (by rfl) T.n_repr (db_of (pv 6)))) (DE.toB (de_repr hG hr.units (by rfl) T.n_repr (DE.toB (cal_N C__law_due hr hG (by rfl) 0 (da_cons (de_of (pv 5)) da_nil)))))) (dw_or1 (dt_cmp (cd_ne hr.units) (DE.toB (de_repr hG hr.units (by rfl) T.n_repr (DE.toB (calX0_N C_times hr hG (by rfl) 0 (da_cons (de_ix (db_of (pv 6)) (de_int).toB) (da_cons (de_ix (db_of (pv 6)) (de_int).toB) da_nil)))))) (DE.toB (de_repr hG hr.units (by rfl) T.n_repr (DE.toB (cal_N C__law_fraction hr hG (by rfl) 0 (da_cons (de_ix (db_of (pv 5)) (de_int).toB) (da_cons (de_ix (db_of (pv 5)) (de_int).toB) da_nil))))))))))
  (dss_one (ds_ret de_bl))
  dss_nil)
  (dss_cons (ds_par2 (i := 7) (j := 8) rfl sc_law.nd rfl rfl rfl rfl (da_cons (cal_G C__law_draw hr hG (by rfl) (da_cons (de_of (pv 1)) (da_cons de_int da_nil))) (da_cons (cal_G C__law_pick hr hG (by rfl) (da_cons (de_of (pv 1)) (da_cons (DF.toE (df_lst (da_cons de_int (da_cons de_non (da_cons de_bl (da_cons de_str (da_cons (cal_G C__law_any hr hG (by rfl) (da_cons (de_of (pv 1)) (da_cons de_int da_nil))) (da_cons (de_tup (da_cons de_int da_nil)) (da_cons (DF.toE (df_lst (da_cons de_int da_nil))) da_nil))))))))) da_nil))) da_nil)))
  (dss_cons (ds_for PassesOwn.never rfl (di_seq (de_tup (da_cons (cal_N C__law_instead hr hG (by rfl) 0 (da_cons (de_of (pv 3)) (da_cons (de_of (pv 7)) (da_cons (de_of (pv 8)) da_nil)))) (da_cons (cal_N C__law_instead hr hG (by rfl) 0 (da_cons (de_of (pv 5)) (da_cons (cal_G C__law_draw hr hG (by rfl) (da_cons (de_of (pv 1)) (da_cons de_int da_nil))) (da_cons (de_of (pv 8)) da_nil)))) (da_cons (de_tup (da_cons (de_of (pv 8)) (da_cons (de_of (pv 8)) da_nil))) da_nil))))) (dg_name (i := 9) sc_law.nd rfl (by first | exact .inl rfl | exact .inr rfl))
  (dss_one (ds_if (dw_pt (dw_and (dt_cmp (cd_eq hr.units) (DE.toB (de_ix (DE.toB (cal_N C__law_due hr hG (by rfl) 0 (da_cons (de_of (pv 9)) da_nil))) (de_int).toB)) (de_str).toB) (dw_and1 (dt_cmp (cd_ne hr.units) (DE.toB (de_repr hG hr.units (by rfl) T.n_repr (DE.toB (cal_N C__law_asked hr hG (by rfl) 0 (da_cons (de_of (pv 9)) (da_cons (cal_G C__law_draw hr hG (by rfl) (da_cons (de_of (pv 1)) (da_cons de_int da_nil))) da_nil)))))) (DE.toB (de_repr hG hr.units (by rfl) T.n_repr (DE.toB (cal_N C__law_due hr hG (by rfl) 0 (da_cons (de_of (pv 9)) da_nil)))))))))
  (dss_one (ds_ret de_bl))
  dss_nil)))
  (dss_one (ds_for PassesOwn.never rfl (di_seq (de_tup (da_cons (cal_G C__law_bent hr hG (by rfl) (da_cons (de_of (pv 1)) (da_cons (de_of (pv 4)) (da_cons de_int da_nil)))) (da_cons (de_of (pv 3)) (da_cons (cal_G C__law_any hr hG (by rfl) (da_cons (de_of (pv 1)) (da_cons de_int da_nil))) (da_cons (de_add (DE.toB (de_sl (db_of (pv 4)) do_none (do_some de_int))) (DE.toB (de_tup (da_cons (de_of (pv 8)) da_nil)))) da_nil)))))) (dg_name (i := 10) sc_law.nd rfl (by first | exact .inl rfl | exact .inr rfl))
  (dss_one (ds_if (dt_cmp (cd_ne hr.units) (DE.toB (de_repr hG hr.units (by rfl) T.n_repr (DE.toB (de_tup (da_cons (cal_N C_is_number hr hG (by rfl) 0 (da_cons (de_of (pv 10)) da_nil)) (da_cons (cal_K0 C_is_number hr hG (by rfl) 0 ["thing"] [0] (dk_cons (de_of (pv 10)) dk_nil)) da_nil)))))) (DE.toB (de_repr hG hr.units (by rfl) T.n_repr (DE.toB (de_repT (DE.toB (de_tup (da_cons (cal_N C__law_is_number hr hG (by rfl) 0 (da_cons (de_of (pv 10)) da_nil)) da_nil))) (de_int).toB)))))
  (dss_one (ds_ret de_bl))
  dss_nil)))))))))))))
  (dss_one (ds_ret de_bl))))
end
end K01

set_option exponentiation.threshold 10000
namespace K01
open PySem PySem.Spec PyProof.Rows L2 DL DN
section
variable (q : D → Prop) (x : XD)
theorem gcd_step {u v : Int} (hu : 0 ≤ u) (hv : 0 < v) : gcdI v (u.fmod v) = gcdI u v := by
  obtain ⟨m, rfl⟩ := Int.eq_ofNat_of_zero_le hu
  obtain ⟨n, rfl⟩ := Int.eq_ofNat_of_zero_le (show 0 ≤ v by omega)
  rw [Int.fmod_eq_emod_of_nonneg _ (by omega), ← Int.natCast_emod]
  show ((Nat.gcd n (m % n) : Nat) : Int) = ((Nat.gcd m n : Nat) : Int)
  rw [Nat.gcd_comm m n, Nat.gcd_rec n m, Nat.gcd_comm]
theorem gcd_zero {u : Int} (hu : 0 ≤ u) : gcdI u 0 = u := by
  rw [gcdI_eq, Int.gcd_zero_right]; omega
theorem gcd_abs (a b : Int) : gcdI (absI a) (absI b) = gcdI a b := by
  have h : ∀ i : Int, (absI i).natAbs = i.natAbs := fun i => by unfold absI; split <;> omega
  unfold gcdI
  rw [h, h]
theorem absI_nn (i : Int) : 0 ≤ absI i := by unfold absI; split <;> omega
theorem common (a b : Int) (h : q (.int (gcdI a b))) : fn__law_common [.int a, .int b] q x := by
  rw [fn__law_common_eq]; unfold g__law_common
  refine ⟨rfl, (show (0 : Nat) < 2 by decide), (show (1 : Nat) < 2 by decide), ?_⟩
  refine fWhile_inv (fun m ρ => ∃ u v : Int, ρ = [some (.int u), some (.int v)] ∧ 0 ≤ u ∧ 0 ≤ v ∧ m = v.toNat ∧ gcdI u v = gcdI a b) ⟨_, _, rfl, absI_nn a, absI_nn b, rfl, gcd_abs a b⟩ ?_
  rintro m ρ ⟨u, v, rfl, hu, hv, rfl, hg⟩ nx hn
  dsimp only [fSeq, fIfS, fRet, fRetN, fDrop, fAsg, fName, fGseq, fGtup, fGcons, fGnil, fVar, fK, f1, f2, fNil, fCons, fTup, fLst, fCall, fCall0, fCallG, fCallK, fCallK0, fRaise, fTry, tryX, fTest, gNot, gAnd, gOr, hAnd, hOr, hNot, fIf, fPar2, fPar3, fSkip, fNever, fBrk, fCnt, fIt, fItT, fItL, fFor, forL, startD, entry, pick, D.isNon,
  DL.lt', DL.le', DL.gt', DL.ge', fSl, fPart, fNo, List.map_cons, List.map_nil, List.length_cons, List.length_nil, List.append_nil, List.nil_append, List.cons_append, List.getElem?_cons_zero, List.getElem?_cons_succ, List.set_cons_zero, List.set_cons_succ, List.replicate_succ, List.replicate_zero, List.filterMap_cons, List.filterMap_nil, Nat.zero_add, Nat.reduceAdd, if_true, if_false, Bool.false_eq_true]
  by_cases h0 : v = 0
  · subst h0
    rw [gcd_zero hu] at hg
    simp only [ev_add_int, ev_add_lst, ev_add_tup, ev_add_str, ev_cat, ev_cmp, ev_sub, ev_mul, ev_div, ev_mod, ev_pow, ev_max2, ev_min2, ev_gcd, ev_neg, ev_abs, ev_int, ev_intb, ev_len_tup, ev_len_lst, ev_tuple_tup, ev_tuple_lst, ev_list_tup, ev_list_lst, ev_rev, ev_rep, ev_ix0t, ev_ix1t, ev_ix2t, ev_ix0l, ev_ix1l, ev_eq_int, ev_eq_str, ev_isn, ev_is2n, ev_is2b, ev_ty_non, ev_ty_bl, ev_ty_int, ev_ty_str, ev_ty_tup, ev_ty_lst, DL.gt', decide_true, decide_false, Int.lt_irrefl, if_false, Bool.false_eq_true]
    rw [hg]; exact h
  · have hv1 : 0 < v := by omega
    have h1 := Int.fmod_nonneg_of_pos u hv1
    have h2 := Int.fmod_lt_of_pos u hv1
    simp only [ev_add_int, ev_add_lst, ev_add_tup, ev_add_str, ev_cat, ev_cmp, ev_sub, ev_mul, ev_div, ev_mod, ev_pow, ev_max2, ev_min2, ev_gcd, ev_neg, ev_abs, ev_int, ev_intb, ev_len_tup, ev_len_lst, ev_tuple_tup, ev_tuple_lst, ev_list_tup, ev_list_lst, ev_rev, ev_rep, ev_ix0t, ev_ix1t, ev_ix2t, ev_ix0l, ev_ix1l, ev_eq_int, ev_eq_str, ev_isn, ev_is2n, ev_is2b, ev_ty_non, ev_ty_bl, ev_ty_int, ev_ty_str, ev_ty_tup, ev_ty_lst, DL.gt', hv1, decide_true, if_true]
    exact ⟨h0, by decide, by decide, hn (u.fmod v).toNat _ (by omega) ⟨v, _, rfl, hv, h1, rfl, by rw [gcd_step hu hv1]; exact hg⟩⟩
end
theorem red_parts {d : Int} {e : El d} {P Q S g : Int} (hS : S ≠ 0) (h1 : (P : Rat) = e.a * S) (h2 : (Q : Rat) = e.b * S) (hg : g = if S > 0 then gcdI (gcdI P Q) S else -gcdI (gcdI P Q) S) (hb : S.natAbs < 2 ^ 9000) :
    Canon e (P.fdiv g) (Q.fdiv g) (S.fdiv g) ∧ (∀ z : Int, DivOk z g) ∧ (Q.fdiv g = 0 ↔ Q = 0) := by
  obtain ⟨c, g0⟩ := Canon.reduce hS h1 h2 hg
  have d3 : gcdI (gcdI P Q) S ∣ S := gcdI_dvd_r ..
  have d2 : gcdI (gcdI P Q) S ∣ Q := Int.dvd_trans (gcdI_dvd_l ..) (gcdI_dvd_r ..)
  have ng : g.natAbs = (gcdI (gcdI P Q) S).natAbs := by rw [hg]; split <;> simp
  have le : g.natAbs ≤ S.natAbs := by rw [ng]; exact Nat.le_of_dvd (by omega) (Int.natAbs_dvd_natAbs.mpr d3)
  have dq : g ∣ Q := by rw [hg]; split; exact d2; exact Int.neg_dvd.mpr d2
  refine ⟨c, fun z => divOk_b g0 (by omega), ?_⟩
  obtain ⟨k, rfl⟩ := dq
  rw [Int.mul_fdiv_cancel_left _ g0]
  constructor
  · rintro rfl; exact Int.mul_zero g
  · intro h
    rcases Int.mul_eq_zero.mp h with h | h
    · exact absurd h g0
    · exact h
section
variable (q : D → Prop) (x : XD)
theorem LN4 : 4 ≤ LN := by decide
theorem lowered_eq {d : Int} {e : El d} {P Q S dd : Int} (hS : S ≠ 0) (h1 : (P : Rat) = e.a * S) (h2 : (Q : Rat) = e.b * S) (hb : S.natAbs < 2 ^ 9000) (hd : Q ≠ 0 → dd = d) : fn_lowered [.int P, .int Q, .int S, .int dd] q x = q (nd e) := by
  obtain ⟨c, dv, z⟩ := red_parts hS h1 h2 rfl hb
  rw [nd_of c]
  rw [fn_lowered_eq]; unfold g_lowered
  dsimp only [fSeq, fIfS, fRet, fRetN, fDrop, fAsg, fName, fGseq, fGtup, fGcons, fGnil, fVar, fK, f1, f2, fNil, fCons, fTup, fLst, fCall, fCall0, fCallG, fCallK, fCallK0, fRaise, fTry, tryX, fTest, gNot, gAnd, gOr, hAnd, hOr, hNot, fIf, fPar2, fPar3, fSkip, fNever, fBrk, fCnt, fIt, fItT, fItL, fFor, forL, startD, entry, pick, D.isNon,
  DL.lt', DL.le', DL.gt', DL.ge', fSl, fPart, fNo, List.map_cons, List.map_nil, List.length_cons, List.length_nil, List.append_nil, List.nil_append, List.cons_append, List.getElem?_cons_zero, List.getElem?_cons_succ, List.set_cons_zero, List.set_cons_succ, List.replicate_succ, List.replicate_zero, List.filterMap_cons, List.filterMap_nil, Nat.zero_add, Nat.reduceAdd, if_true, if_false, Bool.false_eq_true]
  have fin : ∀ g, g = (if S > 0 then gcdI (gcdI P Q) S else -gcdI (gcdI P Q) S) → (DivOk P g ∧ DivOk Q g ∧ DivOk S g ∧ (if Q = 0 then (4 ≤ LN ∧ q (.tup [.int (P.fdiv g), .int (Q.fdiv g), .int (S.fdiv g), .int 1])) else (4 ≤ LN ∧ q (.tup [.int (P.fdiv g), .int (Q.fdiv g), .int (S.fdiv g), .int dd])))) = q (.tup [.int (P.fdiv (if S > 0 then gcdI (gcdI P Q) S else -gcdI (gcdI P Q) S)), .int (Q.fdiv (if S > 0 then gcdI (gcdI P Q) S else -gcdI (gcdI P Q) S)), .int (S.fdiv (if S > 0 then gcdI (gcdI P Q) S else -gcdI (gcdI P Q) S)), .int (if Q.fdiv (if S > 0 then gcdI (gcdI P Q) S else -gcdI (gcdI P Q) S) = 0 then 1 else d)]) := by
    rintro g rfl
    by_cases hq : Q = 0
    · rw [if_pos hq, if_pos (z.mpr hq)]
      exact propext ⟨fun h => h.2.2.2.2, fun h => ⟨dv _, dv _, dv _, LN4, h⟩⟩
    · rw [if_neg hq, if_neg (fun w => hq (z.mp w)), hd hq]
      exact propext ⟨fun h => h.2.2.2.2, fun h => ⟨dv _, dv _, dv _, LN4, h⟩⟩
  by_cases hs : S > 0
  · rw [← fin (gcdI (gcdI P Q) S) (by rw [if_pos hs])]
    have hs' : decide (0 < S) = true := decide_eq_true hs
    simp only [true_and, Nat.sub_self, Nat.reduceSub, List.replicate_zero, List.map_cons, List.map_nil, List.cons_append, List.nil_append, List.append_nil, List.getElem?_cons_zero, List.getElem?_cons_succ, List.set_cons_zero, List.set_cons_succ, List.length_cons, List.length_nil, Nat.zero_add, Nat.reduceAdd, Nat.reduceLT, Nat.reduceLeDiff, ev_add_int, ev_add_lst, ev_add_tup, ev_add_str, ev_cat, ev_cmp, ev_sub, ev_mul, ev_div, ev_mod, ev_pow, ev_max2, ev_min2, ev_gcd, ev_neg, ev_abs, ev_int, ev_intb, ev_len_tup, ev_len_lst, ev_tuple_tup, ev_tuple_lst, ev_list_tup, ev_list_lst, ev_rev, ev_rep, ev_ix0t, ev_ix1t, ev_ix2t, ev_ix0l, ev_ix1l, ev_eq_int, ev_eq_str, ev_isn, ev_is2n, ev_is2b, ev_ty_non, ev_ty_bl, ev_ty_int, ev_ty_str, ev_ty_tup, ev_ty_lst, DL.gt', hs', if_true, Bool.true_xor, Bool.not_eq_true', decide_eq_false_iff_not, ite_not]
  · rw [← fin (-gcdI (gcdI P Q) S) (by rw [if_neg hs])]
    have hs' : decide (0 < S) = false := decide_eq_false hs
    simp only [true_and, Nat.sub_self, Nat.reduceSub, List.replicate_zero, List.map_cons, List.map_nil, List.cons_append, List.nil_append, List.append_nil, List.getElem?_cons_zero, List.getElem?_cons_succ, List.set_cons_zero, List.set_cons_succ, List.length_cons, List.length_nil, Nat.zero_add, Nat.reduceAdd, Nat.reduceLT, Nat.reduceLeDiff, ev_add_int, ev_add_lst, ev_add_tup, ev_add_str, ev_cat, ev_cmp, ev_sub, ev_mul, ev_div, ev_mod, ev_pow, ev_max2, ev_min2, ev_gcd, ev_neg, ev_abs, ev_int, ev_intb, ev_len_tup, ev_len_lst, ev_tuple_tup, ev_tuple_lst, ev_list_tup, ev_list_lst, ev_rev, ev_rep, ev_ix0t, ev_ix1t, ev_ix2t, ev_ix0l, ev_ix1l, ev_eq_int, ev_eq_str, ev_isn, ev_is2n, ev_is2b, ev_ty_non, ev_ty_bl, ev_ty_int, ev_ty_str, ev_ty_tup, ev_ty_lst, DL.gt', hs', if_false, Bool.false_eq_true, Bool.true_xor, Bool.not_eq_true', decide_eq_false_iff_not, ite_not, Int.zero_sub]
end
section
variable (q : D → Prop) (x : XD)
theorem made_of {d : Int} {e : El d} {P Q S dd : Int} (hS : S ≠ 0) (h1 : (P : Rat) = e.a * S) (h2 : (Q : Rat) = e.b * S) (hb : S.natAbs < 2 ^ 9000) (hd : Q ≠ 0 → dd = d) (hd1 : dd = 1 → Q = 0) (h : q (nd e)) : fn__law_made [.int P, .int Q, .int S, .int dd] q x := by
  obtain ⟨c, dv, z⟩ := red_parts hS h1 h2 rfl hb
  rw [nd_of c] at h
  have fin : ∀ g, g = (if S > 0 then gcdI (gcdI P Q) S else -gcdI (gcdI P Q) S) → (DivOk P g ∧ DivOk Q g ∧ DivOk S g ∧ (if Q = 0 then (4 ≤ LN ∧ q (.tup [.int (P.fdiv g), .int (Q.fdiv g), .int (S.fdiv g), .int 1])) else (4 ≤ LN ∧ q (.tup [.int (P.fdiv g), .int (Q.fdiv g), .int (S.fdiv g), .int dd])))) := by
    rintro g rfl
    by_cases hq : Q = 0
    · rw [if_pos hq]
      rw [if_pos (z.mpr hq)] at h
      exact ⟨dv _, dv _, dv _, LN4, h⟩
    · rw [if_neg hq]
      rw [if_neg (fun w => hq (z.mp w)), ← hd hq] at h
      exact ⟨dv _, dv _, dv _, LN4, h⟩
  have sg : ∀ g : Int, IntMulOk g 1 ∧ IntMulOk g (-1) := fun g => ⟨mulOk_r (by decide) (by decide), mulOk_r (by decide) (by decide)⟩
  rw [fn__law_made_eq]; unfold g__law_made
  refine ⟨rfl, ?_⟩
  dsimp only [fSeq, fIfS, fRet, fRetN, fDrop, fAsg, fName, fGseq, fGtup, fGcons, fGnil, fVar, fK, f1, f2, fNil, fCons, fTup, fLst, fCall, fCall0, fCallG, fCallK, fCallK0, fRaise, fTry, tryX, fTest, gNot, gAnd, gOr, hAnd, hOr, hNot, fIf, fPar2, fPar3, fSkip, fNever, fBrk, fCnt, fIt, fItT, fItL, fFor, forL, startD, entry, pick, D.isNon,
  DL.lt', DL.le', DL.gt', DL.ge', fSl, fPart, fNo, List.map_cons, List.map_nil, List.length_cons, List.length_nil, List.append_nil, List.nil_append, List.cons_append, List.getElem?_cons_zero, List.getElem?_cons_succ, List.set_cons_zero, List.set_cons_succ, List.replicate_succ, List.replicate_zero, List.filterMap_cons, List.filterMap_nil, Nat.zero_add, Nat.reduceAdd, if_true, if_false, Bool.false_eq_true]
  by_cases h0 : dd = 1
  · have hq := hd1 h0
    subst hq
    subst h0
    simp only [Nat.sub_self, Nat.reduceSub, List.replicate_zero, List.map_cons, List.map_nil, List.cons_append, List.nil_append, List.append_nil, List.getElem?_cons_zero, List.getElem?_cons_succ, List.set_cons_zero, List.set_cons_succ, List.length_cons, List.length_nil, Nat.zero_add, Nat.reduceAdd, Nat.reduceLT, Nat.reduceLeDiff, ev_add_int, ev_add_lst, ev_add_tup, ev_add_str, ev_cat, ev_cmp, ev_sub, ev_mul, ev_div, ev_mod, ev_pow, ev_max2, ev_min2, ev_gcd, ev_neg, ev_abs, ev_int, ev_intb, ev_len_tup, ev_len_lst, ev_tuple_tup, ev_tuple_lst, ev_list_tup, ev_list_lst, ev_rev, ev_rep, ev_ix0t, ev_ix1t, ev_ix2t, ev_ix0l, ev_ix1l, ev_eq_int, ev_eq_str, ev_isn, ev_is2n, ev_is2b, ev_ty_non, ev_ty_bl, ev_ty_int, ev_ty_str, ev_ty_tup, ev_ty_lst, decide_true, Bool.false_xor, if_true, true_and, Int.add_zero]
    refine common _ _ _ _ (common _ _ _ _ ?_)
    by_cases hs : S > 0
    · have hs' : decide (0 < S) = true := decide_eq_true hs
      have f := fin (gcdI (gcdI P 0) S) (by rw [if_pos hs])
      simp only [Nat.sub_self, Nat.reduceSub, List.replicate_zero, List.map_cons, List.map_nil, List.cons_append, List.nil_append, List.append_nil, List.getElem?_cons_zero, List.getElem?_cons_succ, List.set_cons_zero, List.set_cons_succ, List.length_cons, List.length_nil, Nat.zero_add, Nat.reduceAdd, Nat.reduceLT, Nat.reduceLeDiff, ev_add_int, ev_add_lst, ev_add_tup, ev_add_str, ev_cat, ev_cmp, ev_sub, ev_mul, ev_div, ev_mod, ev_pow, ev_max2, ev_min2, ev_gcd, ev_neg, ev_abs, ev_int, ev_intb, ev_len_tup, ev_len_lst, ev_tuple_tup, ev_tuple_lst, ev_list_tup, ev_list_lst, ev_rev, ev_rep, ev_ix0t, ev_ix1t, ev_ix2t, ev_ix0l, ev_ix1l, ev_eq_int, ev_eq_str, ev_isn, ev_is2n, ev_is2b, ev_ty_non, ev_ty_bl, ev_ty_int, ev_ty_str, ev_ty_tup, ev_ty_lst, DL.gt', hs', if_true, Int.mul_one, sg, true_and, Bool.true_xor, decide_true, Bool.not_true, Bool.false_eq_true, if_false] at f ⊢
      exact f
    · have hs' : decide (0 < S) = false := decide_eq_false hs
      have f := fin (-gcdI (gcdI P 0) S) (by rw [if_neg hs])
      simp only [Nat.sub_self, Nat.reduceSub, List.replicate_zero, List.map_cons, List.map_nil, List.cons_append, List.nil_append, List.append_nil, List.getElem?_cons_zero, List.getElem?_cons_succ, List.set_cons_zero, List.set_cons_succ, List.length_cons, List.length_nil, Nat.zero_add, Nat.reduceAdd, Nat.reduceLT, Nat.reduceLeDiff, ev_add_int, ev_add_lst, ev_add_tup, ev_add_str, ev_cat, ev_cmp, ev_sub, ev_mul, ev_div, ev_mod, ev_pow, ev_max2, ev_min2, ev_gcd, ev_neg, ev_abs, ev_int, ev_intb, ev_len_tup, ev_len_lst, ev_tuple_tup, ev_tuple_lst, ev_list_tup, ev_list_lst, ev_rev, ev_rep, ev_ix0t, ev_ix1t, ev_ix2t, ev_ix0l, ev_ix1l, ev_eq_int, ev_eq_str, ev_isn, ev_is2n, ev_is2b, ev_ty_non, ev_ty_bl, ev_ty_int, ev_ty_str, ev_ty_tup, ev_ty_lst, DL.gt', hs', if_true, Int.mul_neg, Int.mul_one, sg, true_and, Bool.true_xor, decide_true, Bool.not_true, Bool.false_eq_true, if_false] at f ⊢
      exact f
  · have h0' : decide (dd = 1) = false := decide_eq_false h0
    simp only [Nat.sub_self, Nat.reduceSub, List.replicate_zero, List.map_cons, List.map_nil, List.cons_append, List.nil_append, List.append_nil, List.getElem?_cons_zero, List.getElem?_cons_succ, List.set_cons_zero, List.set_cons_succ, List.length_cons, List.length_nil, Nat.zero_add, Nat.reduceAdd, Nat.reduceLT, Nat.reduceLeDiff, ev_add_int, ev_add_lst, ev_add_tup, ev_add_str, ev_cat, ev_cmp, ev_sub, ev_mul, ev_div, ev_mod, ev_pow, ev_max2, ev_min2, ev_gcd, ev_neg, ev_abs, ev_int, ev_intb, ev_len_tup, ev_len_lst, ev_tuple_tup, ev_tuple_lst, ev_list_tup, ev_list_lst, ev_rev, ev_rep, ev_ix0t, ev_ix1t, ev_ix2t, ev_ix0l, ev_ix1l, ev_eq_int, ev_eq_str, ev_isn, ev_is2n, ev_is2b, ev_ty_non, ev_ty_bl, ev_ty_int, ev_ty_str, ev_ty_tup, ev_ty_lst, h0', Bool.false_xor, Bool.false_eq_true, if_false, true_and]
    refine common _ _ _ _ (common _ _ _ _ ?_)
    by_cases hs : S > 0
    · have hs' : decide (0 < S) = true := decide_eq_true hs
      have f := fin (gcdI (gcdI P Q) S) (by rw [if_pos hs])
      simp only [Nat.sub_self, Nat.reduceSub, List.replicate_zero, List.map_cons, List.map_nil, List.cons_append, List.nil_append, List.append_nil, List.getElem?_cons_zero, List.getElem?_cons_succ, List.set_cons_zero, List.set_cons_succ, List.length_cons, List.length_nil, Nat.zero_add, Nat.reduceAdd, Nat.reduceLT, Nat.reduceLeDiff, ev_add_int, ev_add_lst, ev_add_tup, ev_add_str, ev_cat, ev_cmp, ev_sub, ev_mul, ev_div, ev_mod, ev_pow, ev_max2, ev_min2, ev_gcd, ev_neg, ev_abs, ev_int, ev_intb, ev_len_tup, ev_len_lst, ev_tuple_tup, ev_tuple_lst, ev_list_tup, ev_list_lst, ev_rev, ev_rep, ev_ix0t, ev_ix1t, ev_ix2t, ev_ix0l, ev_ix1l, ev_eq_int, ev_eq_str, ev_isn, ev_is2n, ev_is2b, ev_ty_non, ev_ty_bl, ev_ty_int, ev_ty_str, ev_ty_tup, ev_ty_lst, DL.gt', hs', if_true, Int.mul_one, sg, true_and, Bool.true_xor, Bool.not_eq_true', decide_eq_false_iff_not, ite_not]
      exact f
    · have hs' : decide (0 < S) = false := decide_eq_false hs
      have f := fin (-gcdI (gcdI P Q) S) (by rw [if_neg hs])
      simp only [Nat.sub_self, Nat.reduceSub, List.replicate_zero, List.map_cons, List.map_nil, List.cons_append, List.nil_append, List.append_nil, List.getElem?_cons_zero, List.getElem?_cons_succ, List.set_cons_zero, List.set_cons_succ, List.length_cons, List.length_nil, Nat.zero_add, Nat.reduceAdd, Nat.reduceLT, Nat.reduceLeDiff, ev_add_int, ev_add_lst, ev_add_tup, ev_add_str, ev_cat, ev_cmp, ev_sub, ev_mul, ev_div, ev_mod, ev_pow, ev_max2, ev_min2, ev_gcd, ev_neg, ev_abs, ev_int, ev_intb, ev_len_tup, ev_len_lst, ev_tuple_tup, ev_tuple_lst, ev_list_tup, ev_list_lst, ev_rev, ev_rep, ev_ix0t, ev_ix1t, ev_ix2t, ev_ix0l, ev_ix1l, ev_eq_int, ev_eq_str, ev_isn, ev_is2n, ev_is2b, ev_ty_non, ev_ty_bl, ev_ty_int, ev_ty_str, ev_ty_tup, ev_ty_lst, DL.gt', hs', Int.mul_neg, Int.mul_one, sg, true_and, Bool.true_xor, Bool.not_eq_true', decide_eq_false_iff_not, ite_not, Bool.false_eq_true, if_false]
      exact f
end

/-- the last part of a number's tuple -/
noncomputable def dn {d : Int} (e : El d) : Int := if (cn e).2.1 = 0 then 1 else d
theorem bits_b {a : Int} (h : a.natAbs < 2 ^ 9000) : Builtin.Int.intBits a ≤ 9000 := by
  unfold Builtin.Int.intBits
  split
  · exact Nat.zero_le _
  · have : a.natAbs.log2 < 9000 := by
      rcases Nat.eq_zero_or_pos a.natAbs with h0 | hp
      · rw [h0]; decide
      · exact (Nat.log2_lt (Nat.ne_of_gt hp)).mpr h
    omega
theorem mulOk_b {a b : Int} (h : a.natAbs < 2 ^ 9000) (h' : b.natAbs < 2 ^ 9000) : IntMulOk a b := by
  have h1 := bits_b h
  have h2 := bits_b h'
  unfold IntMulOk
  have : Builtin.Int.intTooBig (Builtin.Int.intBits a + Builtin.Int.intBits b) = false := by
    unfold Builtin.Int.intTooBig bitsLine
    simp only [decide_eq_false_iff_not, Int.not_lt]
    omega
  rw [this]; simp
/-- a number whose parts are short -/
structure Sm {d : Int} (e : El d) : Prop where
  p : (cn e).1.natAbs < 2 ^ 4000
  q : (cn e).2.1.natAbs < 2 ^ 4000
  s : (cn e).2.2.natAbs < 2 ^ 4000
theorem lt_up {a : Int} (h : a.natAbs < 2 ^ 4000) : a.natAbs < 2 ^ 9000 := Nat.lt_trans h (Nat.pow_lt_pow_right (by decide) (by decide))
theorem mul_up {a b : Int} (h : a.natAbs < 2 ^ 4000) (h' : b.natAbs < 2 ^ 4000) : (a * b).natAbs < 2 ^ 8000 := by
  rw [Int.natAbs_mul, show (2 : Nat) ^ 8000 = 2 ^ 4000 * 2 ^ 4000 from by rw [← Nat.pow_add]]
  exact Nat.mul_lt_mul'' h h'
section
variable {d : Int} (q : D → Prop) (x : XD)
theorem nd_eq (e : El d) : nd e = .tup [.int (cn e).1, .int (cn e).2.1, .int (cn e).2.2, .int (dn e)] := rfl
theorem ev_ix3t (a b c z : D) (l : List D) : sIx (.tup (a :: b :: c :: z :: l)) (.int 3) q x = q z := ev_ix_tup q x (atI_nat (n := 3) rfl)
theorem root_under_eq (a b : El d) : fn_root_under [nd a, nd b] q x = q (.int (if (cn a).2.1 = 0 then dn b else dn a)) := by
  rw [fn_root_under_eq, nd_eq, nd_eq]; unfold g_root_under
  dsimp only [fSeq, fIfS, fRet, fRetN, fDrop, fAsg, fName, fGseq, fGtup, fGcons, fGnil, fVar, fK, f1, f2, fNil, fCons, fTup, fLst, fCall, fCall0, fCallG, fCallK, fCallK0, fRaise, fTry, tryX, fTest, gNot, gAnd, gOr, hAnd, hOr, hNot, fIf, fPar2, fPar3, fSkip, fNever, fBrk, fCnt, fIt, fItT, fItL, fFor, forL, startD, entry, pick, D.isNon,
  DL.lt', DL.le', DL.gt', DL.ge', fSl, fPart, fNo, List.map_cons, List.map_nil, List.length_cons, List.length_nil, List.append_nil, List.nil_append, List.cons_append, List.getElem?_cons_zero, List.getElem?_cons_succ, List.set_cons_zero, List.set_cons_succ, List.replicate_succ, List.replicate_zero, List.filterMap_cons, List.filterMap_nil, Nat.zero_add, Nat.reduceAdd, if_true, if_false, Bool.false_eq_true]
  simp only [Nat.sub_self, Nat.reduceSub, List.replicate_zero, List.map_cons, List.map_nil, List.cons_append, List.nil_append, List.append_nil, List.getElem?_cons_zero, List.getElem?_cons_succ, List.set_cons_zero, List.set_cons_succ, List.length_cons, List.length_nil, Nat.zero_add, Nat.reduceAdd, Nat.reduceLT, Nat.reduceLeDiff, ev_add_int, ev_add_lst, ev_add_tup, ev_add_str, ev_cat, ev_cmp, ev_sub, ev_mul, ev_div, ev_mod, ev_pow, ev_max2, ev_min2, ev_gcd, ev_neg, ev_abs, ev_int, ev_intb, ev_len_tup, ev_len_lst, ev_tuple_tup, ev_tuple_lst, ev_list_tup, ev_list_lst, ev_rev, ev_rep, ev_ix0t, ev_ix1t, ev_ix2t, ev_ix0l, ev_ix1l, ev_eq_int, ev_eq_str, ev_isn, ev_is2n, ev_is2b, ev_ty_non, ev_ty_bl, ev_ty_int, ev_ty_str, ev_ty_tup, ev_ty_lst, ev_ix3t, true_and, Bool.true_xor, Bool.not_eq_true', decide_eq_false_iff_not, ite_not]
  by_cases h : (cn a).2.1 = 0
  · simp [h]
  · simp [h]
theorem root_under_t (a b : El d) : fn_root_under [.tup [.int (cn a).1, .int (cn a).2.1, .int (cn a).2.2, .int (dn a)], .tup [.int (cn b).1, .int (cn b).2.1, .int (cn b).2.2, .int (dn b)]] q x = q (.int (if (cn a).2.1 = 0 then dn b else dn a)) := root_under_eq q x a b
variable {a b : El d}
theorem rt_plus (h : (cn a).2.1 * (cn b).2.2 + (cn b).2.1 * (cn a).2.2 ≠ 0) : (if (cn a).2.1 = 0 then dn b else dn a) = d := by
  unfold dn
  by_cases h1 : (cn a).2.1 = 0
  · rw [if_pos h1]
    by_cases h2 : (cn b).2.1 = 0
    · rw [h1, h2] at h; simp at h
    · rw [if_neg h2]
  · rw [if_neg h1, if_neg h1]
theorem rt_times (h : (cn a).1 * (cn b).2.1 + (cn a).2.1 * (cn b).1 ≠ 0) : (if (cn a).2.1 = 0 then dn b else dn a) = d := by
  unfold dn
  by_cases h1 : (cn a).2.1 = 0
  · rw [if_pos h1]
    by_cases h2 : (cn b).2.1 = 0
    · rw [h1, h2] at h; simp at h
    · rw [if_neg h2]
  · rw [if_neg h1, if_neg h1]
theorem rt_prod : (cn a).2.1 * (cn b).2.1 * (if (cn a).2.1 = 0 then dn b else dn a) = (cn a).2.1 * (cn b).2.1 * d := by
  unfold dn
  by_cases h1 : (cn a).2.1 = 0
  · rw [h1]; simp
  · rw [if_neg h1, if_neg h1]
theorem rt_one1 (h : (if (cn a).2.1 = 0 then dn b else dn a) = 1) (hd : d ≠ 1) : (cn a).2.1 = 0 ∧ (cn b).2.1 = 0 := by
  unfold dn at h
  by_cases h1 : (cn a).2.1 = 0
  · rw [if_pos h1] at h
    by_cases h2 : (cn b).2.1 = 0
    · exact ⟨h1, h2⟩
    · rw [if_neg h2] at h; exact absurd h hd
  · rw [if_neg h1, if_neg h1] at h; exact absurd h hd
theorem mO {i j : Int} (hi : i.natAbs < 2 ^ 4000) (hj : j.natAbs < 2 ^ 4000) : IntMulOk i j := mulOk_b (lt_up hi) (lt_up hj)
theorem up9 {i : Int} (h : i.natAbs < 2 ^ 8000) : i.natAbs < 2 ^ 9000 := Nat.lt_trans h (Nat.pow_lt_pow_right (by decide) (by decide))
theorem rootO (hd : d.natAbs < 2 ^ 4000) : (if (cn a).2.1 = 0 then dn b else dn a).natAbs < 2 ^ 4000 := by
  unfold dn
  have : (1 : Int).natAbs < 2 ^ 4000 := Nat.one_lt_two_pow (by decide)
  repeat split
  all_goals assumption
theorem mul3O {i j k : Int} (hi : i.natAbs < 2 ^ 4000) (hj : j.natAbs < 2 ^ 4000) (hk : k.natAbs < 2 ^ 4000) : IntMulOk (i * j) k := mulOk_b (Nat.lt_trans (mul_up hi hj) (Nat.pow_lt_pow_right (by decide) (by decide))) (lt_up hk)
theorem num_times_eq (ha : Sm a) (hb : Sm b) (hd : d.natAbs < 2 ^ 4000) : fn_num_times [nd a, nd b] q x = q (nd (a * b)) := by
  obtain ⟨h1, h2, h3⟩ := mul_raw (cn_ok a) (cn_ok b)
  rw [fn_num_times_eq, nd_eq, nd_eq]; unfold g_num_times
  dsimp only [fSeq, fIfS, fRet, fRetN, fDrop, fAsg, fName, fGseq, fGtup, fGcons, fGnil, fVar, fK, f1, f2, fNil, fCons, fTup, fLst, fCall, fCall0, fCallG, fCallK, fCallK0, fRaise, fTry, tryX, fTest, gNot, gAnd, gOr, hAnd, hOr, hNot, fIf, fPar2, fPar3, fSkip, fNever, fBrk, fCnt, fIt, fItT, fItL, fFor, forL, startD, entry, pick, D.isNon,
  DL.lt', DL.le', DL.gt', DL.ge', fSl, fPart, fNo, List.map_cons, List.map_nil, List.length_cons, List.length_nil, List.append_nil, List.nil_append, List.cons_append, List.getElem?_cons_zero, List.getElem?_cons_succ, List.set_cons_zero, List.set_cons_succ, List.replicate_succ, List.replicate_zero, List.filterMap_cons, List.filterMap_nil, Nat.zero_add, Nat.reduceAdd, if_true, if_false, Bool.false_eq_true]
  simp only [Nat.sub_self, Nat.reduceSub, List.replicate_zero, List.map_cons, List.map_nil, List.cons_append, List.nil_append, List.append_nil, List.getElem?_cons_zero, List.getElem?_cons_succ, List.set_cons_zero, List.set_cons_succ, List.length_cons, List.length_nil, Nat.zero_add, Nat.reduceAdd, Nat.reduceLT, Nat.reduceLeDiff, ev_add_int, ev_add_lst, ev_add_tup, ev_add_str, ev_cat, ev_cmp, ev_sub, ev_mul, ev_div, ev_mod, ev_pow, ev_max2, ev_min2, ev_gcd, ev_neg, ev_abs, ev_int, ev_intb, ev_len_tup, ev_len_lst, ev_tuple_tup, ev_tuple_lst, ev_list_tup, ev_list_lst, ev_rev, ev_rep, ev_ix0t, ev_ix1t, ev_ix2t, ev_ix0l, ev_ix1l, ev_eq_int, ev_eq_str, ev_isn, ev_is2n, ev_is2b, ev_ty_non, ev_ty_bl, ev_ty_int, ev_ty_str, ev_ty_tup, ev_ty_lst, root_under_t, mO ha.p hb.p, mO ha.q hb.q, mO ha.p hb.q, mO ha.q hb.p, mO ha.s hb.s, mul3O ha.q hb.q (rootO (a := a) (b := b) hd), true_and, rt_prod]
  rw [lowered_eq (d := d) (e := a * b) _ _ h3 h1 h2 (up9 (mul_up ha.s hb.s)) rt_times]
end

/-! lists of numbers -/
open Lean.Grind in
theorem nd_zero {d : Int} : nd (0 : El d) = .tup [.int 0, .int 0, .int 1, .int 1] := by
  have := nd_int (d := d) 0
  exact this
theorem nd_ok {d : Int} (e : El d) : (nd e).ok = true := rfl
theorem nd_dep {d : Int} (e : El d) : (nd e).dep = 1 := rfl
theorem nds_ok {d : Int} : ∀ l : List (El d), D.oks (l.map nd) = true
  | [] => rfl
  | a :: l => by rw [List.map_cons]; show ((nd a).ok && D.oks (l.map nd)) = true; rw [nd_ok, nds_ok l]; rfl
theorem nds_dep {d : Int} : ∀ l : List (El d), D.deps (l.map nd) ≤ 1
  | [] => Nat.zero_le _
  | a :: l => by rw [List.map_cons]; show max ((nd a).dep) (D.deps (l.map nd)) ≤ 1; rw [nd_dep]; have := nds_dep l; omega
theorem eqD_4 (a b c z a' b' c' z' : Int) : eqD (.tup [.int a, .int b, .int c, .int z]) (.tup [.int a', .int b', .int c', .int z']) = decide (a = a' ∧ b = b' ∧ c = c' ∧ z = z') := by
  rw [eqD_tup, eqvs_cons, eqvs_cons, eqvs_cons, eqvs_cons, eqvs_nil, eqD_int, eqD_int, eqD_int, eqD_int, Bool.and_true]
  by_cases h : a = a' <;> by_cases h2 : b = b' <;> by_cases h3 : c = c' <;> by_cases h4 : z = z' <;> simp [h, h2, h3, h4]
theorem eqD_nd {d : Int} (e f : El d) : eqD (nd e) (nd f) = decide (e = f) := by
  by_cases h : e = f
  · subst h; rw [eqD_self _ (nd_ok e), decide_eq_true rfl]
  · rw [decide_eq_false h, nd_eq, nd_eq, eqD_4]
    apply decide_eq_false
    rintro ⟨h1, h2, h3, h4⟩
    apply h
    apply nd_inj
    rw [nd_eq, nd_eq, h1, h2, h3, h4]
theorem eqvs_nd {d : Int} : ∀ l m : List (El d), PyData.eqvAll (D.pys (l.map nd)) (D.pys (m.map nd)) = decide (l = m)
  | [], [] => rfl
  | [], b :: m => rfl
  | a :: l, [] => rfl
  | a :: l, b :: m => by
    rw [List.map_cons, List.map_cons, eqvs_cons, eqD_nd, eqvs_nd l m]
    by_cases h : a = b <;> by_cases h2 : l = m <;> simp [h, h2]
section
variable {d : Int} (q : D → Prop) (x : XD)
/-- a polynomial's tuple -/
noncomputable def pd (l : List (El d)) : D := .tup (l.map nd)
theorem ev_eq_nd (n : Bool) (e f : El d) : sEq n (nd e) (nd f) q x = q (.bl (n ^^ decide (e = f))) := by
  rw [← eqD_nd]
  exact propext ⟨fun h => h.2.2.2.2, fun h => ⟨nd_ok e, nd_ok f, show (1 : Nat) ≤ 64 by decide, show (1 : Nat) ≤ 64 by decide, h⟩⟩
theorem ev_eq_lst (n : Bool) (l m : List (El d)) : sEq n (.lst (l.map nd)) (.lst (m.map nd)) q x = q (.bl (n ^^ decide (l = m))) := by
  rw [← eqvs_nd, ← eqD_lst]
  have dp : ∀ l : List (El d), (D.lst (l.map nd)).dep ≤ 64 := fun l => by have := nds_dep l; show D.deps (l.map nd) + 1 ≤ 64; omega
  exact propext ⟨fun h => h.2.2.2.2, fun h => ⟨nds_ok l, nds_ok m, dp l, dp m, h⟩⟩
theorem ev_eq_tup (n : Bool) (l m : List (El d)) : sEq n (.tup (l.map nd)) (.tup (m.map nd)) q x = q (.bl (n ^^ decide (l = m))) := by
  rw [← eqvs_nd, ← eqD_tup]
  have dp : ∀ l : List (El d), (D.tup (l.map nd)).dep ≤ 64 := fun l => by have := nds_dep l; show D.deps (l.map nd) + 1 ≤ 64; omega
  exact propext ⟨fun h => h.2.2.2.2, fun h => ⟨nds_ok l, nds_ok m, dp l, dp m, h⟩⟩
end
theorem atI_last (xs : List D) (a : D) : atI (xs ++ [a]) (-1) = some a := by
  unfold atI ixN
  rw [if_neg (by omega), if_pos (by rw [List.length_append, List.length_singleton]; omega)]
  have : ((-1 : Int) + ((xs ++ [a]).length : Int)).toNat = xs.length := by rw [List.length_append, List.length_singleton]; omega
  show (xs ++ [a])[((-1 : Int) + ((xs ++ [a]).length : Int)).toNat]? = some a
  rw [this]
  simp
theorem cut_zero {R : Type} [Lean.Grind.CommRing R] [DecidableEq R] (l : List R) : cut (l ++ [0]) = cut l := by
  refine cut_eq (po_eq.mpr fun i => ?_)
  induction l generalizing i with
  | nil => cases i with
    | zero => rfl
    | succ j => rfl
  | cons a l ih => cases i with
    | zero => rfl
    | succ j => exact ih j
theorem co_last {R : Type} [Lean.Grind.CommRing R] (l : List R) (a : R) : co (l ++ [a]) l.length = a := by
  induction l with
  | nil => rfl
  | cons b l ih => exact ih
theorem cut_ne {R : Type} [Lean.Grind.CommRing R] [DecidableEq R] {a : R} (h : a ≠ 0) (l : List R) : cut (l ++ [a]) = l ++ [a] := by
  refine cut_of (.inr ?_)
  rw [List.length_append, List.length_singleton, Nat.add_sub_cancel, co_last]
  exact h
section
variable {d : Int} (q : D → Prop) (x : XD)
theorem snoc (l : List (El d)) : l = [] ∨ ∃ m a, l = m ++ [a] := by
  rcases List.eq_nil_or_concat l with h | ⟨m, a, h⟩
  · exact .inl h
  · exact .inr ⟨m, a, by rw [h, List.concat_eq_append]⟩
theorem cutD_to (xs : List D) (n : Nat) (h : n ≤ xs.length) : DL.cutD xs none (some (n : Int)) = xs.take n := by
  unfold DL.cutD
  rw [HT.sIx_none, HT.sIx_nat, List.drop_zero, Nat.min_eq_left h, Nat.sub_zero]
theorem nds_at {l : List (El d)} {i : Nat} {a : El d} (h : l[i]? = some a) : atI (l.map nd) (i : Int) = some (nd a) := DL.atI_nat (by rw [List.getElem?_map, h]; rfl)
end

/-! numbers as values -/
/-- sums, products of numbers by defs -/
structure Ari (PL TI : Fn) (d : Int) : Prop where
  pl : ∀ (a b : El d) (q : D → Prop) (x : XD), Sm a → Sm b → q (nd (a + b)) → PL [nd a, nd b] q x
  ti : ∀ (a b : El d) (q : D → Prop) (x : XD), Sm a → Sm b → q (nd (a * b)) → TI [nd a, nd b] q x
/-- d is right: no square, 1 neither; told so by the program -/
structure Rt (d : Int) : Prop where
  ne1 : d ≠ 1
  ne0 : d ≠ 0
  sm : d.natAbs < 2 ^ 4000
  sq : ∀ (q : D → Prop) (x : XD), q (.bl true) → fn_is_squarefree [.int d] q x
theorem Rt.sz {d : Int} (r : Rt d) {e : El d} {S B : Nat} (h : Sz e S B) (hS : S < 2 ^ 4000) (hB : B < 2 ^ 4000) : Sm e := by
  obtain ⟨h1, h2, h3⟩ := h.canon r.ne0 (cn_ok e)
  exact ⟨by omega, by omega, by omega⟩
theorem Sm.zero {d : Int} : Sm (0 : El d) := by
  have h := (cn_ok (0 : El d)).uniq (canon_int 0)
  exact ⟨by rw [h.1]; exact Nat.two_pow_pos _, by rw [h.2.1]; exact Nat.two_pow_pos _, by rw [h.2.2]; exact Nat.one_lt_two_pow (by decide)⟩
section
variable {d : Int} (q : D → Prop) (x : XD)
theorem is_whole_int (i : Int) (h : q (.bl true)) : fn_is_whole [.int i] q x := by
  rw [fn_is_whole_eq]; unfold g_is_whole
  refine ⟨rfl, ?_⟩
  dsimp only [fSeq, fIfS, fRet, fRetN, fDrop, fAsg, fName, fGseq, fGtup, fGcons, fGnil, fVar, fK, f1, f2, fNil, fCons, fTup, fLst, fCall, fCall0, fCallG, fCallK, fCallK0, fRaise, fTry, tryX, fTest, gNot, gAnd, gOr, hAnd, hOr, hNot, fIf, fPar2, fPar3, fSkip, fNever, fBrk, fCnt, fIt, fItT, fItL, fFor, forL, startD, entry, pick, D.isNon,
  DL.lt', DL.le', DL.gt', DL.ge', fSl, fPart, fNo, List.map_cons, List.map_nil, List.length_cons, List.length_nil, List.append_nil, List.nil_append, List.cons_append, List.getElem?_cons_zero, List.getElem?_cons_succ, List.set_cons_zero, List.set_cons_succ, List.replicate_succ, List.replicate_zero, List.filterMap_cons, List.filterMap_nil, Nat.zero_add, Nat.reduceAdd, if_true, if_false, Bool.false_eq_true]
  simp only [Nat.sub_self, Nat.reduceSub, List.replicate_zero, List.map_cons, List.map_nil, List.cons_append, List.nil_append, List.append_nil, List.getElem?_cons_zero, List.getElem?_cons_succ, List.set_cons_zero, List.set_cons_succ, List.length_cons, List.length_nil, Nat.zero_add, Nat.reduceAdd, Nat.reduceLT, Nat.reduceLeDiff, ev_add_int, ev_add_lst, ev_add_tup, ev_add_str, ev_cat, ev_cmp, ev_sub, ev_mul, ev_div, ev_mod, ev_pow, ev_max2, ev_min2, ev_gcd, ev_neg, ev_abs, ev_int, ev_intb, ev_len_tup, ev_len_lst, ev_tuple_tup, ev_tuple_lst, ev_list_tup, ev_list_lst, ev_rev, ev_rep, ev_ix0t, ev_ix1t, ev_ix2t, ev_ix0l, ev_ix1l, ev_eq_int, ev_eq_str, ev_isn, ev_is2n, ev_is2b, ev_ty_non, ev_ty_bl, ev_ty_int, ev_ty_str, ev_ty_tup, ev_ty_lst, isTy_int_int, isTy_bool_int, Bool.not_false, if_true]
  exact h
theorem dn_ne {e : El d} (h : (cn e).2.1 = 0) : dn e = 1 := by unfold dn; rw [if_pos h]
theorem dn_eq {e : El d} (h : (cn e).2.1 ≠ 0) : dn e = d := by unfold dn; rw [if_neg h]
theorem number_value (r : Rt d) (e : El d) (h : q (.bl true)) : fn_is_number_value [nd e] q x := by
  rw [fn_is_number_value_eq, nd_eq]; unfold g_is_number_value
  refine ⟨rfl, ?_⟩
  have c := cn_ok e
  dsimp only [fSeq, fIfS, fRet, fRetN, fDrop, fAsg, fName, fGseq, fGtup, fGcons, fGnil, fVar, fK, f1, f2, fNil, fCons, fTup, fLst, fCall, fCall0, fCallG, fCallK, fCallK0, fRaise, fTry, tryX, fTest, gNot, gAnd, gOr, hAnd, hOr, hNot, fIf, fPar2, fPar3, fSkip, fNever, fBrk, fCnt, fIt, fItT, fItL, fFor, forL, startD, entry, pick, D.isNon,
  DL.lt', DL.le', DL.gt', DL.ge', fSl, fPart, fNo, List.map_cons, List.map_nil, List.length_cons, List.length_nil, List.append_nil, List.nil_append, List.cons_append, List.getElem?_cons_zero, List.getElem?_cons_succ, List.set_cons_zero, List.set_cons_succ, List.replicate_succ, List.replicate_zero, List.filterMap_cons, List.filterMap_nil, Nat.zero_add, Nat.reduceAdd, if_true, if_false, Bool.false_eq_true]
  simp only [Nat.sub_self, Nat.reduceSub, List.replicate_zero, List.map_cons, List.map_nil, List.cons_append, List.nil_append, List.append_nil, List.getElem?_cons_zero, List.getElem?_cons_succ, List.set_cons_zero, List.set_cons_succ, List.length_cons, List.length_nil, Nat.zero_add, Nat.reduceAdd, Nat.reduceLT, Nat.reduceLeDiff, ev_add_int, ev_add_lst, ev_add_tup, ev_add_str, ev_cat, ev_cmp, ev_sub, ev_mul, ev_div, ev_mod, ev_pow, ev_max2, ev_min2, ev_gcd, ev_neg, ev_abs, ev_int, ev_intb, ev_len_tup, ev_len_lst, ev_tuple_tup, ev_tuple_lst, ev_list_tup, ev_list_lst, ev_rev, ev_rep, ev_ix0t, ev_ix1t, ev_ix2t, ev_ix0l, ev_ix1l, ev_eq_int, ev_eq_str, ev_isn, ev_is2n, ev_is2b, ev_ty_non, ev_ty_bl, ev_ty_int, ev_ty_str, ev_ty_tup, ev_ty_lst, isTy_tuple_tuple, Bool.not_true, Bool.false_eq_true, if_false, Bool.true_xor, show ((4 : Nat) : Int) = 4 from rfl, decide_true]
  refine lc_map (fun _ => .bl true) _ [] (fun a ha q' h' => ?_) (by simp [LN]) (all_true _ _ _ ?_)
  · have : ∃ i : Int, a = .int i := by simp at ha; rcases ha with e | e | e | e <;> exact ⟨_, e⟩
    obtain ⟨i, rfl⟩ := this
    exact ⟨show (1 : Nat) < 6 by decide, is_whole_int _ _ i h'⟩
  · have h1 : DL.lt' (cn e).2.2 1 = false := decide_eq_false (by have := c.pos; omega)
    simp only [Bool.not_true, Bool.false_eq_true, if_false, true_and, h1, c.low, decide_true, Bool.false_xor]
    by_cases hq : (cn e).2.1 = 0
    · simp only [hq, decide_true, if_true, dn_ne hq]; exact h
    · simp only [hq, decide_false, Bool.false_eq_true, if_false, dn_eq hq, r.ne1, Bool.not_false, if_true]
      exact r.sq q x h
theorem need_number (r : Rt d) (e : El d) (h : q .non) : fn_need_number [nd e] q x := by
  rw [fn_need_number_eq]; unfold g_need_number
  refine ⟨rfl, ?_⟩
  dsimp only [fSeq, fIfS, fRet, fRetN, fDrop, fAsg, fName, fGseq, fGtup, fGcons, fGnil, fVar, fK, f1, f2, fNil, fCons, fTup, fLst, fCall, fCall0, fCallG, fCallK, fCallK0, fRaise, fTry, tryX, fTest, gNot, gAnd, gOr, hAnd, hOr, hNot, fIf, fPar2, fPar3, fSkip, fNever, fBrk, fCnt, fIt, fItT, fItL, fFor, forL, startD, entry, pick, D.isNon,
  DL.lt', DL.le', DL.gt', DL.ge', fSl, fPart, fNo, List.map_cons, List.map_nil, List.length_cons, List.length_nil, List.append_nil, List.nil_append, List.cons_append, List.getElem?_cons_zero, List.getElem?_cons_succ, List.set_cons_zero, List.set_cons_succ, List.replicate_succ, List.replicate_zero, List.filterMap_cons, List.filterMap_nil, Nat.zero_add, Nat.reduceAdd, if_true, if_false, Bool.false_eq_true]
  exact number_value _ _ r e (by simp only [Bool.not_true, Bool.false_eq_true, if_false]; exact ⟨trivial, h⟩)
theorem go_together (a b : El d) (h : q (.bl true)) : fn_do_go_together [nd a, nd b] q x := by
  rw [fn_do_go_together_eq, nd_eq, nd_eq]; unfold g_do_go_together
  refine ⟨rfl, ?_⟩
  dsimp only [fSeq, fIfS, fRet, fRetN, fDrop, fAsg, fName, fGseq, fGtup, fGcons, fGnil, fVar, fK, f1, f2, fNil, fCons, fTup, fLst, fCall, fCall0, fCallG, fCallK, fCallK0, fRaise, fTry, tryX, fTest, gNot, gAnd, gOr, hAnd, hOr, hNot, fIf, fPar2, fPar3, fSkip, fNever, fBrk, fCnt, fIt, fItT, fItL, fFor, forL, startD, entry, pick, D.isNon,
  DL.lt', DL.le', DL.gt', DL.ge', fSl, fPart, fNo, List.map_cons, List.map_nil, List.length_cons, List.length_nil, List.append_nil, List.nil_append, List.cons_append, List.getElem?_cons_zero, List.getElem?_cons_succ, List.set_cons_zero, List.set_cons_succ, List.replicate_succ, List.replicate_zero, List.filterMap_cons, List.filterMap_nil, Nat.zero_add, Nat.reduceAdd, if_true, if_false, Bool.false_eq_true]
  simp only [Nat.sub_self, Nat.reduceSub, List.replicate_zero, List.map_cons, List.map_nil, List.cons_append, List.nil_append, List.append_nil, List.getElem?_cons_zero, List.getElem?_cons_succ, List.set_cons_zero, List.set_cons_succ, List.length_cons, List.length_nil, Nat.zero_add, Nat.reduceAdd, Nat.reduceLT, Nat.reduceLeDiff, ev_add_int, ev_add_lst, ev_add_tup, ev_add_str, ev_cat, ev_cmp, ev_sub, ev_mul, ev_div, ev_mod, ev_pow, ev_max2, ev_min2, ev_gcd, ev_neg, ev_abs, ev_int, ev_intb, ev_len_tup, ev_len_lst, ev_tuple_tup, ev_tuple_lst, ev_list_tup, ev_list_lst, ev_rev, ev_rep, ev_ix0t, ev_ix1t, ev_ix2t, ev_ix0l, ev_ix1l, ev_eq_int, ev_eq_str, ev_isn, ev_is2n, ev_is2b, ev_ty_non, ev_ty_bl, ev_ty_int, ev_ty_str, ev_ty_tup, ev_ty_lst, ev_ix3t, Bool.false_xor]
  by_cases h1 : (cn a).2.1 = 0
  · simp only [h1, decide_true, if_true]; exact h
  · simp only [h1, decide_false, Bool.false_eq_true, if_false]
    by_cases h2 : (cn b).2.1 = 0
    · simp only [h2, decide_true, if_true]; exact h
    · simp only [h2, decide_false, Bool.false_eq_true, if_false, dn_eq h1, dn_eq h2, decide_true]; exact h
theorem last_nd (l : List (El d)) (a : El d) : atI ((l ++ [a]).map nd) (-1) = some (nd a) := by rw [List.map_append]; exact atI_last _ _
theorem trim_last {l : List (El d)} {a : El d} (h : Trim (l ++ [a])) : a ≠ 0 := by
  rcases h with h | h
  · simp at h
  · rwa [List.length_append, List.length_singleton, Nat.add_sub_cancel, co_last] at h
theorem need_two (r : Rt d) (a b : El d) (h : q .non) : fn_need_two [nd a, nd b] q x := by
  rw [fn_need_two_eq]; unfold g_need_two
  refine ⟨rfl, ?_⟩
  dsimp only [fSeq, fIfS, fRet, fRetN, fDrop, fAsg, fName, fGseq, fGtup, fGcons, fGnil, fVar, fK, f1, f2, fNil, fCons, fTup, fLst, fCall, fCall0, fCallG, fCallK, fCallK0, fRaise, fTry, tryX, fTest, gNot, gAnd, gOr, hAnd, hOr, hNot, fIf, fPar2, fPar3, fSkip, fNever, fBrk, fCnt, fIt, fItT, fItL, fFor, forL, startD, entry, pick, D.isNon,
  DL.lt', DL.le', DL.gt', DL.ge', fSl, fPart, fNo, List.map_cons, List.map_nil, List.length_cons, List.length_nil, List.append_nil, List.nil_append, List.cons_append, List.getElem?_cons_zero, List.getElem?_cons_succ, List.set_cons_zero, List.set_cons_succ, List.replicate_succ, List.replicate_zero, List.filterMap_cons, List.filterMap_nil, Nat.zero_add, Nat.reduceAdd, if_true, if_false, Bool.false_eq_true]
  exact need_number _ _ r a (need_number _ _ r b ⟨rfl, h⟩)
theorem need_together (a b : El d) (h : q .non) : fn_need_together [nd a, nd b] q x := by
  rw [fn_need_together_eq]; unfold g_need_together
  refine ⟨rfl, ?_⟩
  dsimp only [fSeq, fIfS, fRet, fRetN, fDrop, fAsg, fName, fGseq, fGtup, fGcons, fGnil, fVar, fK, f1, f2, fNil, fCons, fTup, fLst, fCall, fCall0, fCallG, fCallK, fCallK0, fRaise, fTry, tryX, fTest, gNot, gAnd, gOr, hAnd, hOr, hNot, fIf, fPar2, fPar3, fSkip, fNever, fBrk, fCnt, fIt, fItT, fItL, fFor, forL, startD, entry, pick, D.isNon,
  DL.lt', DL.le', DL.gt', DL.ge', fSl, fPart, fNo, List.map_cons, List.map_nil, List.length_cons, List.length_nil, List.append_nil, List.nil_append, List.cons_append, List.getElem?_cons_zero, List.getElem?_cons_succ, List.set_cons_zero, List.set_cons_succ, List.replicate_succ, List.replicate_zero, List.filterMap_cons, List.filterMap_nil, Nat.zero_add, Nat.reduceAdd, if_true, if_false, Bool.false_eq_true]
  exact go_together _ _ a b (by simp only [Bool.not_true, Bool.false_eq_true, if_false]; exact ⟨trivial, h⟩)
theorem times_go (r : Rt d) {a b : El d} (ha : Sm a) (hb : Sm b) (h : q (nd (a * b))) : fn_times [nd a, nd b] q x := by
  rw [fn_times_eq]; unfold g_times
  refine ⟨rfl, ?_⟩
  dsimp only [fSeq, fIfS, fRet, fRetN, fDrop, fAsg, fName, fGseq, fGtup, fGcons, fGnil, fVar, fK, f1, f2, fNil, fCons, fTup, fLst, fCall, fCall0, fCallG, fCallK, fCallK0, fRaise, fTry, tryX, fTest, gNot, gAnd, gOr, hAnd, hOr, hNot, fIf, fPar2, fPar3, fSkip, fNever, fBrk, fCnt, fIt, fItT, fItL, fFor, forL, startD, entry, pick, D.isNon,
  DL.lt', DL.le', DL.gt', DL.ge', fSl, fPart, fNo, List.map_cons, List.map_nil, List.length_cons, List.length_nil, List.append_nil, List.nil_append, List.cons_append, List.getElem?_cons_zero, List.getElem?_cons_succ, List.set_cons_zero, List.set_cons_succ, List.replicate_succ, List.replicate_zero, List.filterMap_cons, List.filterMap_nil, Nat.zero_add, Nat.reduceAdd, if_true, if_false, Bool.false_eq_true]
  exact need_two _ _ r a b (need_together _ _ a b (show fn_num_times [nd a, nd b] q x by rw [num_times_eq q x ha hb r.sm]; exact h))
end

section
variable {d : Int} (q : D → Prop) (x : XD)
theorem zip_nds (l m : List (El d)) : zipD (l.map nd) (m.map nd) = (l.zip m).map fun p => .tup [nd p.1, nd p.2] := by
  unfold zipD
  rw [List.zip_map, List.map_map]; rfl
theorem zipWith_zip (l m : List (El d)) : List.zipWith (· + ·) l m = (l.zip m).map fun p => p.1 + p.2 := by
  rw [List.zip, List.map_zipWith]
theorem pads (l : List (El d)) (n : Nat) : l.map nd ++ (List.replicate n [nd (0 : El d)]).flatten = (l ++ List.replicate n 0).map nd := by
  rw [List.map_append, List.map_replicate]
  congr 1
  induction n with
  | zero => rfl
  | succ n ih => rw [List.replicate_succ, List.flatten_cons, ih, List.replicate_succ]; rfl
theorem rep_nd (k : Nat) (hk : k ≤ 1000) : sRepT (.tup [nd (0 : El d)]) (.int (k : Int)) q x = q (.tup ((List.replicate k (0 : El d)).map nd)) := by
  have e := pads ([] : List (El d)) k
  rw [List.map_nil, List.nil_append, List.nil_append] at e
  rw [← e]
  exact propext ⟨fun h => h.2.2.2, fun h => ⟨show 1 ≤ 1000 by decide, by omega, by omega, h⟩⟩
theorem add_nds (l m : List (El d)) (h : l.length + m.length ≤ LN) : sAdd (.tup (l.map nd)) (.tup (m.map nd)) q x = q (.tup ((l ++ m).map nd)) := by
  rw [ev_add_tup, List.map_append]
  exact propext ⟨fun h => h.2, fun h' => ⟨by rw [List.length_map, List.length_map]; exact h, h'⟩⟩
theorem rep_ndl (k : Nat) (hk : k ≤ 10000) : sRep (.lst [nd (0 : El d)]) (.int (k : Int)) q x = q (.lst ((List.replicate k (0 : El d)).map nd)) := by
  have e := pads ([] : List (El d)) k
  rw [List.map_nil, List.nil_append, List.nil_append] at e
  rw [← e, ev_rep, Int.toNat_natCast]
  exact propext ⟨fun h => h.2.2.2, fun h => ⟨by rw [List.length_singleton, Nat.one_mul]; exact Nat.le_trans hk (by decide), by omega, by omega, h⟩⟩
theorem addl_nds (l m : List (El d)) (h : l.length + m.length ≤ LN) : sAdd (.lst (l.map nd)) (.lst (m.map nd)) q x = q (.lst ((l ++ m).map nd)) := by
  rw [ev_add_lst, List.map_append]
  exact propext ⟨fun h => h.2, fun h' => ⟨by rw [List.length_map, List.length_map]; exact h, h'⟩⟩
theorem LNle {n : Nat} (h : n ≤ 10000) : n ≤ LN := Nat.le_trans h (by decide)
theorem Sm.pad (f : List (El d)) (n : Nat) (hf : ∀ e ∈ f, Sm e) : ∀ e ∈ f ++ List.replicate n 0, Sm e := fun e he => by
  rcases List.mem_append.mp he with h1 | h1
  · exact hf e h1
  · rw [(List.mem_replicate.mp h1).2]; exact Sm.zero
theorem max_int (a b : Nat) : (if (b : Int) > (a : Int) then (b : Int) else (a : Int)) = ((max a b : Nat) : Int) := by split <;> omega
theorem sub_int (a b : Nat) : ((max a b : Nat) : Int) - (a : Int) = ((max a b - a : Nat) : Int) := by omega
theorem sub_int' (a b : Nat) : ((max a b : Nat) : Int) - (b : Int) = ((max a b - b : Nat) : Int) := by omega
/-- sums of neighbours, by a def -/
theorem zip_sum {PL TI : Fn} (A : Ari PL TI d) {ρ : Ro} {i j : Nat} (hi : i < ρ.length) (hj : j < ρ.length) (hij : i ≠ j) (l m : List (El d)) (hl : ∀ e ∈ l, Sm e) (hm : ∀ e ∈ m, Sm e) (hn : l.length ≤ 10000) (h : q (.lst ((List.zipWith (· + ·) l m).map nd))) :
    lcL (fGtup 2 (fGcons (fName i) (fGcons (fName j) fGnil))) fYes (fCall PL [] (fCons (fVar i) (fCons (fVar j) fNil))) [i, j] ρ q x (zipD (l.map nd) (m.map nd)) [] := by
  rw [zip_nds]
  refine lc_mapA (α := El d × El d) _ (fun p => nd (p.1 + p.2)) _ [] (fun p hp q' h' => ?_) ?_ ?_
  · have h1 := hl _ (List.of_mem_zip (a := p.1) (b := p.2) hp).1
    have h2 := hm _ (List.of_mem_zip (a := p.1) (b := p.2) hp).2
    have hw : (wipeD ρ [i, j]).length = ρ.length := by simp [wipeD]
    refine ⟨rfl, by rw [hw]; exact hi, by rw [List.length_set, hw]; exact hj, rfl, ?_⟩
    have g1 : (((wipeD ρ [i, j]).set i (some (nd p.1))).set j (some (nd p.2)))[i]? = some (some (nd p.1)) := by rw [List.getElem?_set_ne (Ne.symm hij), List.getElem?_set_self (by rw [hw]; exact hi)]
    have g2 : (((wipeD ρ [i, j]).set i (some (nd p.1))).set j (some (nd p.2)))[j]? = some (some (nd p.2)) := by rw [List.getElem?_set_self (by rw [List.length_set, hw]; exact hj)]
    simp only [fCall, fCons, fVar, fNil, g1, g2, List.append_nil]
    exact A.pl _ _ _ _ h1 h2 h'
  · rw [List.length_nil, Nat.zero_add, List.length_zip]
    exact Nat.le_trans (Nat.min_le_left ..) (Nat.le_trans hn (by decide))
  · rw [zipWith_zip, List.map_map] at h
    exact h
end
/-! ### products -/
section
variable {d : Int} (x : XD)
theorem enumD_nds (l : List (El d)) : enumD (l.map nd) = (l.zipIdx).map fun p => .tup [.int (p.2 : Nat), nd p.1] := by
  unfold enumD
  rw [List.mapIdx_eq_zipIdx_map, List.zipIdx_map, List.map_map]
  rfl
end

section
variable {d : Int} (x : XD)
abbrev putS (PL TI : Fn) : FS := (fPut 2 (f2 sAdd (fVar 3) (fVar 5)) (fCall PL [] (fCons (f2 sIx (fVar 2) (f2 sAdd (fVar 3) (fVar 5))) (fCons (fCall TI [] (fCons (fVar 4) (fCons (fVar 6) fNil))) fNil))))
abbrev inS (PL TI : Fn) : FS := (fFor (fEnT (fVar 1)) (fGtup 2 (fGcons (fName 5) (fGcons (fName 6) fGnil))) (putS PL TI))
abbrev mulS (PL TI : Fn) : FS := (fFor (fEnT (fVar 0)) (fGtup 2 (fGcons (fName 3) (fGcons (fName 4) fGnil))) (inS PL TI))
noncomputable abbrev mst (l m f : List (El d)) (s3 s4 s5 s6 : Option D) : Ro := [some (.tup (l.map nd)), some (.tup (m.map nd)), some (.lst (f.map nd)), s3, s4, s5, s6]
noncomputable abbrev ixd (p : El d × Nat) : D := .tup [.int (p.2 : Nat), nd p.1]
theorem in_loop {PL TI : Fn} (A : Ari PL TI d) (r : Rt d) {l m : List (El d)} {a : El d} {S T B C N i : Nat} (ha : Sz a S B) (hm : Ps m T C) (hST : S * T < 2 ^ 4000) (hi : i + 1 ≤ N) (hN : N * (B * C) < 2 ^ 4000) (hB : B < 2 ^ 4000) (hC : C < 2 ^ 4000) (dn : DEnds) (s5 s6 : Option D) (P : Po (El d)) {f : List (El d)} (hk : i + m.length ≤ f.length) (hf : Ps f (S * T) (i * (B * C))) (hp : po f = P)
    (nx : ∀ f' s5' s6', f'.length = f.length → Ps f' (S * T) ((i + 1) * (B * C)) → po f' = P + Po.C a * PX ^ i * po m → dn.nx (mst l m f' (some (.int (i : Nat))) (some (nd a)) s5' s6')) :
    inS PL TI (mst l m f (some (.int (i : Nat))) (some (nd a)) s5 s6) dn := by
  have bST : 0 < S * T := Nat.mul_pos ha.pos hm.pos
  have bC : i * (B * C) + B * C ≤ N * (B * C) := by
    have := Nat.mul_le_mul_right (B * C) hi
    rw [Nat.add_mul] at this; omega
  have bS : S < 2 ^ 4000 := Nat.lt_of_le_of_lt (Nat.le_mul_of_pos_right _ hm.pos) hST
  have bT : T < 2 ^ 4000 := Nat.lt_of_le_of_lt (Nat.le_mul_of_pos_left _ ha.pos) hST
  have sa : Sm a := r.sz ha bS hB
  show forL _ _ _ (enumD (m.map nd)) _
  rw [enumD_nds]
  refine forL_map (f := fun p : El d × Nat => ixd p) (fun rest ρ => ∃ (pre suf : List (El d)) (g : List (El d)) (s5 s6 : Option D), m = pre ++ suf ∧ rest = suf.zipIdx pre.length ∧ ρ = mst l m g (some (.int (i : Nat))) (some (nd a)) s5 s6 ∧ g.length = f.length ∧ po g = P + Po.C a * PX ^ i * po pre ∧
    ∀ t e, g[t]? = some e → Sz e (S * T) ((if t < i + pre.length then i + 1 else i) * (B * C))) ?_ ?_ m.zipIdx _ ⟨[], m, f, s5, s6, rfl, rfl, rfl, rfl, ?_, ?_⟩
  · rintro ρ ⟨pre, suf, g, s5, s6, h1, h2, rfl, h4, h5, h6⟩
    have : suf = [] := by
      cases suf with
      | nil => rfl
      | cons b suf => rw [List.zipIdx_cons] at h2; cases h2
    subst this
    rw [List.append_nil] at h1
    subst h1
    refine nx g s5 s6 h4 ⟨bST, fun e he => ?_⟩ h5
    obtain ⟨t, ht⟩ := List.getElem?_of_mem he
    refine (h6 t e ht).mono ?_
    split
    · exact Nat.le_refl _
    · exact Nat.mul_le_mul_right _ (by omega)
  · rintro ⟨b, j⟩ rest ρ ⟨pre, suf, g, s5, s6, h1, h2, rfl, h4, h5, h6⟩ nx' hn
    cases suf with
    | nil => cases h2
    | cons b' suf =>
      rw [List.zipIdx_cons] at h2
      injection h2 with h2 h3
      injection h2 with h2 h2'
      subst h2 h2'
      have hlen : i + pre.length < g.length := by rw [h4]; rw [h1, List.length_append, List.length_cons] at hk; omega
      obtain ⟨e, he⟩ : ∃ e, g[i + pre.length]? = some e := ⟨_, List.getElem?_eq_getElem hlen⟩
      have zb : Sz b T C := hm.all b (by rw [h1]; simp)
      have ze : Sz e (S * T) (i * (B * C)) := by have := h6 _ e he; rwa [if_neg (by omega)] at this
      have zab := ha.mul zb
      have cast : ((i : Nat) : Int) + ((pre.length : Nat) : Int) = ((i + pre.length : Nat) : Int) := by omega
      refine ⟨rfl, show (5 : Nat) < 7 by decide, show (6 : Nat) < 7 by decide, rfl, ?_⟩
      dsimp only [putS, fPut, fSeq, fIfS, fRet, fRetN, fDrop, fAsg, fName, fGseq, fGtup, fGcons, fGnil, fVar, fK, f1, f2, fNil, fCons, fTup, fLst, fCall, fCall0, fCallG, fCallK, fCallK0, fRaise, fTry, tryX, fTest, gNot, gAnd, gOr, hAnd, hOr, hNot, fIf, fPar2, fPar3, fSkip, fNever, fBrk, fCnt, fIt, fItT, fItL, fFor, forL, startD, entry, pick, D.isNon,
  DL.lt', DL.le', DL.gt', DL.ge', fSl, fPart, fNo, List.map_cons, List.map_nil, List.length_cons, List.length_nil, List.append_nil, List.nil_append, List.cons_append, List.getElem?_cons_zero, List.getElem?_cons_succ, List.set_cons_zero, List.set_cons_succ, List.replicate_succ, List.replicate_zero, List.filterMap_cons, List.filterMap_nil, Nat.zero_add, Nat.reduceAdd, if_true, if_false, Bool.false_eq_true]
      simp only [Nat.sub_self, Nat.reduceSub, List.replicate_zero, List.map_cons, List.map_nil, List.cons_append, List.nil_append, List.append_nil, List.getElem?_cons_zero, List.getElem?_cons_succ, List.set_cons_zero, List.set_cons_succ, List.length_cons, List.length_nil, Nat.zero_add, Nat.reduceAdd, Nat.reduceLT, Nat.reduceLeDiff, ev_add_int, cast, ev_ix_lst _ _ (nds_at he)]
      refine A.ti _ _ _ _ sa (r.sz zb bT hC) (A.pl _ _ _ _ (r.sz ze hST (by omega)) (r.sz zab hST (by omega)) ?_)
      have ix : ixN (g.map nd).length ((i + pre.length : Nat) : Int) = some (i + pre.length) := by
        unfold ixN
        rw [List.length_map, if_pos (by omega), if_pos (by omega)]; rfl
      show match ixN (g.map nd).length ((i + pre.length : Nat) : Int) with | some j => _ | none => False
      rw [ix]
      refine hn _ ⟨pre ++ [b], suf, g.set (i + pre.length) (e + a * b), some (.int (pre.length : Nat)), some (nd b), by rw [h1]; simp, by rw [List.length_append, List.length_singleton]; exact h3, ?_, by rw [List.length_set]; exact h4, ?_, ?_⟩
      · show [_, _, _, _, _, _, _] = [_, _, _, _, _, _, _]
        rw [List.map_set]
      · rw [po_set (a * b) g _ e he, h5, po_snoc, C_mul]
        have : (PX : Po (El d)) ^ (i + pre.length) = PX ^ i * PX ^ pre.length := by grind
        rw [this]; grind
      · intro t e' ht
        rw [List.length_append, List.length_singleton]
        rcases DL.set_get ht with ⟨rfl, rfl⟩ | ⟨hne, ht⟩
        · rw [if_pos (by omega)]
          refine (ze.add zab).mono ?_
          rw [Nat.add_mul, Nat.one_mul]; omega
        · have := h6 t e' ht
          by_cases hlt : t < i + pre.length
          · rw [if_pos hlt] at this; rwa [if_pos (by omega)]
          · rw [if_neg hlt] at this; rwa [if_neg (by omega)]
  · rw [po_nil, hp]; grind
  · intro t e ht
    refine (hf.all e (List.mem_of_getElem? ht)).mono ?_
    split
    · exact Nat.mul_le_mul_right _ (by omega)
    · exact Nat.le_refl _
theorem mul_loop {PL TI : Fn} (A : Ari PL TI d) (r : Rt d) {l m : List (El d)} {S T B C N : Nat} (hl : Ps l S B) (hm : Ps m T C) (hST : S * T < 2 ^ 4000) (hi : l.length ≤ N) (hN : N * (B * C) < 2 ^ 4000) (hB : B < 2 ^ 4000) (hC : C < 2 ^ 4000) (dn : DEnds) (s3 s4 s5 s6 : Option D) {k : Nat} (hk : l.length + m.length ≤ k + 1)
    (nx : ∀ f' s3' s4' s5' s6', po f' = po l * po m → dn.nx (mst l m f' s3' s4' s5' s6')) :
    mulS PL TI (mst l m (List.replicate k 0) s3 s4 s5 s6) dn := by
  have bST : 0 < S * T := Nat.mul_pos hl.pos hm.pos
  show forL _ _ _ (enumD (l.map nd)) _
  rw [enumD_nds]
  refine forL_map (f := fun p : El d × Nat => ixd p) (fun rest ρ => ∃ (pre suf : List (El d)) (g : List (El d)) (s3 s4 s5 s6 : Option D), l = pre ++ suf ∧ rest = suf.zipIdx pre.length ∧ ρ = mst l m g s3 s4 s5 s6 ∧ g.length = k ∧ po g = po pre * po m ∧ Ps g (S * T) (pre.length * (B * C))) ?_ ?_ l.zipIdx _
    ⟨[], l, _, s3, s4, s5, s6, rfl, rfl, rfl, List.length_replicate, ?_, bST, ?_⟩
  · rintro ρ ⟨pre, suf, g, s3, s4, s5, s6, h1, h2, rfl, h4, h5, h6⟩
    have : suf = [] := by
      cases suf with
      | nil => rfl
      | cons b suf => rw [List.zipIdx_cons] at h2; cases h2
    subst this
    rw [List.append_nil] at h1
    subst h1
    exact nx g s3 s4 s5 s6 h5
  · rintro ⟨a, j⟩ rest ρ ⟨pre, suf, g, s3, s4, s5, s6, h1, h2, rfl, h4, h5, h6⟩ nx' hn
    cases suf with
    | nil => cases h2
    | cons b' suf =>
      rw [List.zipIdx_cons] at h2
      injection h2 with h2 h3
      injection h2 with h2 h2'
      subst h2 h2'
      have hlen : pre.length + 1 ≤ l.length := by rw [h1, List.length_append, List.length_cons]; omega
      refine ⟨rfl, show (3 : Nat) < 7 by decide, show (4 : Nat) < 7 by decide, rfl, ?_⟩
      refine in_loop A r (N := N) (hl.all a (by rw [h1]; simp)) hm hST (by omega) hN hB hC _ s5 s6 (po pre * po m) (by omega) h6 h5 fun f' s5' s6' q1 q2 q3 => ?_
      refine hn _ ⟨pre ++ [a], suf, f', some (.int (pre.length : Nat)), some (nd a), s5', s6', by rw [h1]; simp, by rw [List.length_append, List.length_singleton]; exact h3, rfl, q1.trans h4, ?_, ?_⟩
      · rw [q3, po_snoc]; grind
      · rw [List.length_append, List.length_singleton]; exact q2
  · rw [po_nil, po_zeros]; grind
  · intro e he
    rw [(List.mem_replicate.mp he).2]
    exact .zero bST
variable (q : D → Prop)
end
/-! ### values -/
section
variable {d : Int} (x : XD) (q : D → Prop)
/-- the sizes that Horner's sums want -/
structure Hs {d : Int} (l : List (El d)) (e : El d) (n S B T C : Nat) : Prop where
  pl : Ps l S B
  len : l.length ≤ n
  pe : Sz e T C
  le : T ≤ C
  s : S * T ^ n < 2 ^ 4000
  b : n * (B * C ^ n) < 2 ^ 4000
  t : C < 2 ^ 4000
theorem Hs.sm {l : List (El d)} {e : El d} {n S B T C : Nat} (h : Hs l e n S B T C) (r : Rt d) (m : List (El d)) (hm : m.length ≤ n) (hp : Ps m S B) : Sm (ev e m) := r.sz (hp.ev h.pe h.le n hm) h.s h.b
end

section
variable (q : D → Prop) (x : XD)
theorem natAbs_cast (n : Nat) : ((n : Nat) : Int).natAbs = n := rfl
theorem fdiv_cast (a b : Nat) : Int.fdiv (a : Int) (b : Int) = ((a / b : Nat) : Int) := (Int.ofNat_fdiv a b).symm
theorem square_root_go (n : Nat) (hb : n < 2 ^ 8000) (h : ∀ r : Nat, r * r ≤ n → n < (r + 1) * (r + 1) → q (.int (r : Nat))) : fn_square_root [.int (n : Nat)] q x := by
  rw [fn_square_root_eq]; unfold g_square_root
  refine ⟨rfl, ?_⟩
  dsimp only [fSeq, fIfS, fRet, fRetN, fDrop, fAsg, fName, fGseq, fGtup, fGcons, fGnil, fVar, fK, f1, f2, fNil, fCons, fTup, fLst, fCall, fCall0, fCallG, fCallK, fCallK0, fRaise, fTry, tryX, fTest, gNot, gAnd, gOr, hAnd, hOr, hNot, fIf, fPar2, fPar3, fSkip, fNever, fBrk, fCnt, fIt, fItT, fItL, fFor, forL, startD, entry, pick, D.isNon,
  DL.lt', DL.le', DL.gt', DL.ge', fSl, fPart, fNo, List.map_cons, List.map_nil, List.length_cons, List.length_nil, List.append_nil, List.nil_append, List.cons_append, List.getElem?_cons_zero, List.getElem?_cons_succ, List.set_cons_zero, List.set_cons_succ, List.replicate_succ, List.replicate_zero, List.filterMap_cons, List.filterMap_nil, Nat.zero_add, Nat.reduceAdd, if_true, if_false, Bool.false_eq_true]
  have c2 : (2 : Int) = ((2 : Nat) : Int) := rfl
  have c1 : (1 : Int) = ((1 : Nat) : Int) := rfl
  have d2 : ∀ z : Int, DivOk z 2 := fun z => divOk_s (by decide) (by decide) (by decide)
  simp only [Nat.sub_self, Nat.reduceSub, List.replicate_zero, List.map_cons, List.map_nil, List.cons_append, List.nil_append, List.append_nil, List.getElem?_cons_zero, List.getElem?_cons_succ, List.set_cons_zero, List.set_cons_succ, List.length_cons, List.length_nil, Nat.zero_add, Nat.reduceAdd, Nat.reduceLT, Nat.reduceLeDiff, ev_add_int, ev_add_lst, ev_add_tup, ev_add_str, ev_cat, ev_cmp, ev_sub, ev_mul, ev_div, ev_mod, ev_pow, ev_max2, ev_min2, ev_gcd, ev_neg, ev_abs, ev_int, ev_intb, ev_len_tup, ev_len_lst, ev_tuple_tup, ev_tuple_lst, ev_list_tup, ev_list_lst, ev_rev, ev_rep, ev_ix0t, ev_ix1t, ev_ix2t, ev_ix0l, ev_ix1l, ev_eq_int, ev_eq_str, ev_isn, ev_is2n, ev_is2b, ev_ty_non, ev_ty_bl, ev_ty_int, ev_ty_str, ev_ty_tup, ev_ty_lst, d2, true_and]
  rcases Nat.eq_zero_or_pos n with h0 | h0
  · subst h0
    refine fWhile_inv (fun m ρ => m = 0 ∧ ρ = [some (.int 0), some (.int 0), some (.int 0)]) ⟨rfl, rfl⟩ ?_
    rintro m ρ ⟨rfl, rfl⟩ nx hn
    dsimp only [fSeq, fIfS, fRet, fRetN, fDrop, fAsg, fName, fGseq, fGtup, fGcons, fGnil, fVar, fK, f1, f2, fNil, fCons, fTup, fLst, fCall, fCall0, fCallG, fCallK, fCallK0, fRaise, fTry, tryX, fTest, gNot, gAnd, gOr, hAnd, hOr, hNot, fIf, fPar2, fPar3, fSkip, fNever, fBrk, fCnt, fIt, fItT, fItL, fFor, forL, startD, entry, pick, D.isNon,
  DL.lt', DL.le', DL.gt', DL.ge', fSl, fPart, fNo, List.map_cons, List.map_nil, List.length_cons, List.length_nil, List.append_nil, List.nil_append, List.cons_append, List.getElem?_cons_zero, List.getElem?_cons_succ, List.set_cons_zero, List.set_cons_succ, List.replicate_succ, List.replicate_zero, List.filterMap_cons, List.filterMap_nil, Nat.zero_add, Nat.reduceAdd, if_true, if_false, Bool.false_eq_true]
    exact h 0 (by decide) (by decide)
  · refine fWhile_inv (fun m ρ => ∃ f : Nat, m = f ∧ ρ = [some (.int (n : Nat)), some (.int (f : Nat)), some (.int (((f + n / f) / 2 : Nat) : Int))] ∧ 1 ≤ f ∧ f ≤ n ∧ n < (f + 1) * (f + 1)) (m := n) ⟨n, rfl, ?_, h0, Nat.le_refl _, ?_⟩ ?_
    · rw [Nat.div_self h0, c1, c2, ← Int.natCast_add, fdiv_cast]
    · have : (n + 1) * (n + 1) = n * n + 2 * n + 1 := by grind
      omega
    · rintro m ρ ⟨f, hm, rfl, k1, k2, k3⟩ nx hn
      subst m
      dsimp only [fSeq, fIfS, fRet, fRetN, fDrop, fAsg, fName, fGseq, fGtup, fGcons, fGnil, fVar, fK, f1, f2, fNil, fCons, fTup, fLst, fCall, fCall0, fCallG, fCallK, fCallK0, fRaise, fTry, tryX, fTest, gNot, gAnd, gOr, hAnd, hOr, hNot, fIf, fPar2, fPar3, fSkip, fNever, fBrk, fCnt, fIt, fItT, fItL, fFor, forL, startD, entry, pick, D.isNon,
  DL.lt', DL.le', DL.gt', DL.ge', fSl, fPart, fNo, List.map_cons, List.map_nil, List.length_cons, List.length_nil, List.append_nil, List.nil_append, List.cons_append, List.getElem?_cons_zero, List.getElem?_cons_succ, List.set_cons_zero, List.set_cons_succ, List.replicate_succ, List.replicate_zero, List.filterMap_cons, List.filterMap_nil, Nat.zero_add, Nat.reduceAdd, if_true, if_false, Bool.false_eq_true]
      simp only [ev_cmp, DL.lt']
      by_cases ht : (f + n / f) / 2 < f
      · have ht' : (((f + n / f) / 2 : Nat) : Int) < (f : Int) := by omega
        simp only [ht', decide_true, if_true]
        have q1 : 1 ≤ n / f := Nat.div_pos k2 k1
        have g1 : 1 ≤ (f + n / f) / 2 := by omega
        have nw := newton (n := n) k1
        generalize (f + n / f) / 2 = g at *
        simp only [ev_add_int, ev_add_lst, ev_add_tup, ev_add_str, ev_cat, ev_cmp, ev_sub, ev_mul, ev_div, ev_mod, ev_pow, ev_max2, ev_min2, ev_gcd, ev_neg, ev_abs, ev_int, ev_intb, ev_len_tup, ev_len_lst, ev_tuple_tup, ev_tuple_lst, ev_list_tup, ev_list_lst, ev_rev, ev_rep, ev_ix0t, ev_ix1t, ev_ix2t, ev_ix0l, ev_ix1l, ev_eq_int, ev_eq_str, ev_isn, ev_is2n, ev_is2b, ev_ty_non, ev_ty_bl, ev_ty_int, ev_ty_str, ev_ty_tup, ev_ty_lst, d2, true_and]
        refine ⟨show (1 : Nat) < 3 by decide, divOk_b (by omega) (Nat.lt_of_le_of_lt (show ((g : Nat) : Int).natAbs ≤ n by omega) (Nat.lt_trans hb (Nat.pow_lt_pow_right (by decide) (by decide)))), show (2 : Nat) < 3 by decide, ?_⟩
        rw [fdiv_cast, ← Int.natCast_add, c2, fdiv_cast]
        exact hn g _ ht ⟨g, rfl, rfl, g1, by omega, nw⟩
      · have ht' : ¬ (((f + n / f) / 2 : Nat) : Int) < (f : Int) := by omega
        simp only [ht', decide_false, Bool.false_eq_true, if_false]
        have q1 : f ≤ n / f := by omega
        exact h f ((Nat.le_div_iff_mul_le k1).mp q1) k3
def sgI (d : Int) : Int := if d > 0 then 1 else -1
theorem sgI_mul (d : Int) : sgI d * (d.natAbs : Int) = d := by unfold sgI; split <;> omega
theorem fmod_cast (a b : Nat) : Int.fmod (a : Int) (b : Int) = ((a % b : Nat) : Int) := by rw [Int.fmod_eq_emod_of_nonneg _ (by omega), ← Int.natCast_emod]
abbrev sqst (d : Int) (o i l p : Nat) : Ro := [some (.int d), some (.int (l : Nat)), some (.int (o : Nat)), some (.int (sgI d * (i : Nat))), some (.int (p : Nat)), none]
theorem cube_le {p l : Nat} (hp : 1 ≤ p) (h : p * p * p ≤ l) : p ≤ l := by
  have h1 : p * 1 ≤ p * p := Nat.mul_le_mul_left p hp
  have h2 : p * p * 1 ≤ p * p * p := Nat.mul_le_mul_left (p * p) hp
  omega
abbrev sqIn : FS := (fWhile (fTest (f2 (sEq false) (f2 sMod (fVar 1) (f2 sMul (fVar 4) (fVar 4))) (fK (.int 0))))
  (fPar2 1 2 (fCons (f2 sDiv (fVar 1) (f2 sMul (fVar 4) (fVar 4))) (fCons (f2 sMul (fVar 2) (fVar 4)) fNil))))
noncomputable abbrev sqS : FS := (fSeq (fWhile (fTest (f2 (sCmp le') (f2 sMul (f2 sMul (fVar 4) (fVar 4)) (fVar 4)) (fVar 1)))
  (fSeq (fWhile (fTest (f2 (sEq false) (f2 sMod (fVar 1) (f2 sMul (fVar 4) (fVar 4))) (fK (.int 0))))
  (fPar2 1 2 (fCons (f2 sDiv (fVar 1) (f2 sMul (fVar 4) (fVar 4))) (fCons (f2 sMul (fVar 2) (fVar 4)) fNil))))
  (fSeq (fIfS (fTest (f2 (sEq false) (f2 sMod (fVar 1) (fVar 4)) (fK (.int 0))))
  (fPar2 1 3 (fCons (f2 sDiv (fVar 1) (fVar 4)) (fCons (f2 sMul (fVar 3) (fVar 4)) fNil)))
  fSkip)
  (fAugI 4 (fun i j => i + j) (fK (.int 1))))))
  (fSeq (fAsg (fCall fn_square_root [] (fCons (fVar 1) fNil)) (fName 5))
  (fSeq (fIfS (fTest (f2 (sEq false) (f2 sMul (fVar 5) (fVar 5)) (fVar 1)))
  (fRet (fTup (fCons (f2 sMul (fVar 2) (fVar 5)) (fCons (fVar 3) fNil))))
  fSkip)
  (fRet (fTup (fCons (fVar 2) (fCons (f2 sMul (fVar 3) (fVar 1)) fNil)))))))
theorem sq_in (dd : Int) (o i l p : Nat) (hq : Sqi dd.natAbs o i l p) (up9 : ∀ {a b : Nat}, a ≤ dd.natAbs + 2 → b ≤ dd.natAbs + 2 → IntMulOk (a : Int) (b : Int) ∧ ∀ z : Int, a ≠ 0 → b ≠ 0 → DivOk z ((a * b : Nat) : Int)) (hp : p ≤ dd.natAbs + 2) (dn : DEnds) (nx : ∀ o' l', Sqi dd.natAbs o' i l' p → ¬ p * p ∣ l' → dn.nx (sqst dd o' i l' p)) : sqIn (sqst dd o i l p) dn := by
  refine fWhile_inv (fun m ρ => ∃ o l : Nat, m = l ∧ ρ = sqst dd o i l p ∧ Sqi dd.natAbs o i l p) (m := l) ⟨o, l, rfl, rfl, hq⟩ ?_
  rintro m ρ ⟨o, l, hm, rfl, hq⟩ nx' hn
  subst m
  have p2 := hq.p2
  have pp0 : 0 < p * p := Nat.mul_pos (by omega) (by omega)
  have pp : ((p : Nat) : Int) * ((p : Nat) : Int) = ((p * p : Nat) : Int) := (Int.natCast_mul ..).symm
  have m1 := (up9 hp hp).1
  have ne : ((p * p : Nat) : Int) ≠ 0 := by omega
  dsimp only [fSeq, fIfS, fRet, fRetN, fDrop, fAsg, fName, fGseq, fGtup, fGcons, fGnil, fVar, fK, f1, f2, fNil, fCons, fTup, fLst, fCall, fCall0, fCallG, fCallK, fCallK0, fRaise, fTry, tryX, fTest, gNot, gAnd, gOr, hAnd, hOr, hNot, fIf, fPar2, fPar3, fSkip, fNever, fBrk, fCnt, fIt, fItT, fItL, fFor, forL, startD, entry, pick, D.isNon,
  DL.lt', DL.le', DL.gt', DL.ge', fSl, fPart, fNo, List.map_cons, List.map_nil, List.length_cons, List.length_nil, List.append_nil, List.nil_append, List.cons_append, List.getElem?_cons_zero, List.getElem?_cons_succ, List.set_cons_zero, List.set_cons_succ, List.replicate_succ, List.replicate_zero, List.filterMap_cons, List.filterMap_nil, Nat.zero_add, Nat.reduceAdd, if_true, if_false, Bool.false_eq_true]
  simp only [ev_add_int, ev_add_lst, ev_add_tup, ev_add_str, ev_cat, ev_cmp, ev_sub, ev_mul, ev_div, ev_mod, ev_pow, ev_max2, ev_min2, ev_gcd, ev_neg, ev_abs, ev_int, ev_intb, ev_len_tup, ev_len_lst, ev_tuple_tup, ev_tuple_lst, ev_list_tup, ev_list_lst, ev_rev, ev_rep, ev_ix0t, ev_ix1t, ev_ix2t, ev_ix0l, ev_ix1l, ev_eq_int, ev_eq_str, ev_isn, ev_is2n, ev_is2b, ev_ty_non, ev_ty_bl, ev_ty_int, ev_ty_str, ev_ty_tup, ev_ty_lst, m1, pp, ne, fmod_cast, true_and, ne_eq, not_false_eq_true, Bool.false_xor]
  have ole : o ≤ dd.natAbs + 2 := by
    have e := hq.eq
    have : o * 1 ≤ o * (o * i * l) := Nat.mul_le_mul_left _ (Nat.mul_pos (Nat.mul_pos hq.o1 hq.i1) hq.l1)
    have : o * (o * i * l) = o * o * i * l := by grind
    omega
  by_cases hd : l % (p * p) = 0
  · have hd' : ((l % (p * p) : Nat) : Int) = 0 := by omega
    have dv : p * p ∣ l := Nat.dvd_of_mod_eq_zero hd
    simp only [hd', decide_true, if_true]
    have h2 := hq.square dv
    have dk := (up9 hp hp).2 ((l : Nat) : Int) (by omega) (by omega)
    rw [fdiv_cast]
    refine ⟨dk, (up9 ole hp).1, show (1 : Nat) < 6 by decide, show (2 : Nat) < 6 by decide, hn (l / (p * p)) _ ?_ ⟨o * p, l / (p * p), rfl, ?_, h2⟩⟩
    · exact Nat.div_lt_self hq.l1 (by have : 2 * 2 ≤ p * p := Nat.mul_le_mul p2 p2; omega)
    · show [_, _, _, _, _, _] = [_, _, _, _, _, _]
      rw [Int.natCast_mul]
  · have hd' : ¬ ((l % (p * p) : Nat) : Int) = 0 := by omega
    simp only [hd', decide_false, Bool.false_eq_true, if_false]
    exact nx o l hq fun dv => hd (Nat.mod_eq_zero_of_dvd dv)
theorem sg_mul {dd : Int} {i p : Nat} (hi : (i : Int).natAbs < 2 ^ 9000) (hp : (p : Int).natAbs < 2 ^ 9000) : IntMulOk (sgI dd * ((i : Nat) : Int)) ((p : Nat) : Int) := mulOk_b (by
  rw [Int.natAbs_mul]
  have : (sgI dd).natAbs = 1 := by unfold sgI; split <;> rfl
  rw [this, Nat.one_mul]; exact hi) hp
theorem square_parts_go (dd : Int) (h0 : dd ≠ 0) (hb : dd.natAbs < 2 ^ 3000) (h : ∀ o i : Nat, 1 ≤ o → dd.natAbs = o * o * i → SF i → q (.tup [.int (o : Nat), .int (sgI dd * (i : Nat))])) : fn_square_parts [.int dd] q x := by
  have up : ∀ {a : Nat}, a ≤ dd.natAbs + 2 → (a : Int).natAbs < 2 ^ 3001 := fun {a} ha => by
    have e : (2 : Nat) ^ 3001 = 2 ^ 3000 * 2 := Nat.pow_succ ..
    have : 2 ≤ 2 ^ 3000 := Nat.le_trans (show 2 ≤ 2 ^ 1 by decide) (Nat.pow_le_pow_right (by decide) (by decide))
    rw [natAbs_cast, e]; generalize 2 ^ 3000 = Z at *; omega
  have up9 : ∀ {a : Nat}, a ≤ dd.natAbs + 2 → (a : Int).natAbs < 2 ^ 9000 := fun {a} ha => Nat.lt_trans (up ha) (Nat.pow_lt_pow_right (by decide) (by decide))
  have upp : ∀ {a b : Nat}, a ≤ dd.natAbs + 2 → b ≤ dd.natAbs + 2 → ((a * b : Nat) : Int).natAbs < 2 ^ 9000 := fun {a b} ha hb' => by
    have h1 := up ha
    have h2 := up hb'
    rw [natAbs_cast] at h1 h2 ⊢
    have := Nat.mul_lt_mul'' h1 h2
    rw [← Nat.pow_add] at this
    exact Nat.lt_trans this (Nat.pow_lt_pow_right (by decide) (by decide))
  have mo : ∀ {a b : Nat}, a ≤ dd.natAbs + 2 → b ≤ dd.natAbs + 2 → IntMulOk (a : Int) (b : Int) ∧ ∀ z : Int, a ≠ 0 → b ≠ 0 → DivOk z ((a * b : Nat) : Int) := fun {a b} ha hb' => ⟨mulOk_b (up9 ha) (up9 hb'), fun z h1 h2 => divOk_b (by have := Nat.mul_pos (Nat.pos_of_ne_zero h1) (Nat.pos_of_ne_zero h2); omega) (upp ha hb')⟩
  have main : sqS (sqst dd 1 1 dd.natAbs 2) (entry false q x) := by
    refine fWhile_inv (fun m ρ => ∃ o i l p : Nat, m = dd.natAbs + 2 - p ∧ ρ = sqst dd o i l p ∧ p ≤ dd.natAbs + 2 ∧ Sqi dd.natAbs o i l p) ⟨1, 1, dd.natAbs, 2, rfl, rfl, by omega, .start (by omega)⟩ ?_
    rintro m ρ ⟨o, i, l, p, hm, rfl, hp, hq⟩ nx hn
    subst m
    have p2 := hq.p2
    have pp : ((p : Nat) : Int) * ((p : Nat) : Int) = ((p * p : Nat) : Int) := (Int.natCast_mul ..).symm
    have ppp : ((p * p : Nat) : Int) * ((p : Nat) : Int) = ((p * p * p : Nat) : Int) := (Int.natCast_mul ..).symm
    have m1 := (mo hp hp).1
    have m2 : IntMulOk ((p * p : Nat) : Int) ((p : Nat) : Int) := mulOk_b (upp hp hp) (up9 hp)
    have el : o * o * i * l = dd.natAbs := hq.eq.symm
    have le : l ≤ dd.natAbs := by rw [← el]; exact Nat.le_mul_of_pos_left _ (Nat.mul_pos (Nat.mul_pos hq.o1 hq.o1) hq.i1)
    dsimp only [fSeq, fIfS, fRet, fRetN, fDrop, fAsg, fName, fGseq, fGtup, fGcons, fGnil, fVar, fK, f1, f2, fNil, fCons, fTup, fLst, fCall, fCall0, fCallG, fCallK, fCallK0, fRaise, fTry, tryX, fTest, gNot, gAnd, gOr, hAnd, hOr, hNot, fIf, fPar2, fPar3, fSkip, fNever, fBrk, fCnt, fIt, fItT, fItL, fFor, forL, startD, entry, pick, D.isNon,
  DL.lt', DL.le', DL.gt', DL.ge', fSl, fPart, fNo, List.map_cons, List.map_nil, List.length_cons, List.length_nil, List.append_nil, List.nil_append, List.cons_append, List.getElem?_cons_zero, List.getElem?_cons_succ, List.set_cons_zero, List.set_cons_succ, List.replicate_succ, List.replicate_zero, List.filterMap_cons, List.filterMap_nil, Nat.zero_add, Nat.reduceAdd, if_true, if_false, Bool.false_eq_true]
    simp only [ev_mul, ev_cmp, DL.le', m1, m2, pp, ppp, true_and]
    by_cases hc : p * p * p ≤ l
    · have hc' : ((p * p * p : Nat) : Int) ≤ ((l : Nat) : Int) := by omega
      have pl : p ≤ l := cube_le (by omega) hc
      simp only [hc', decide_true, if_true]
      refine sq_in dd o i l p hq mo hp _ fun o' l' hq' hn' => ?_
      have ne : ((p : Nat) : Int) ≠ 0 := by omega
      have dk : DivOk ((l' : Nat) : Int) ((p : Nat) : Int) := divOk_b ne (up9 hp)
      have el' : o' * o' * i * l' = dd.natAbs := hq'.eq.symm
      have lei : i ≤ dd.natAbs := by
        have : i * 1 ≤ i * (o' * o' * l') := Nat.mul_le_mul_left _ (Nat.mul_pos (Nat.mul_pos hq'.o1 hq'.o1) hq'.l1)
        have : i * (o' * o' * l') = o' * o' * i * l' := by grind
        omega
      have mi : IntMulOk (sgI dd * ((i : Nat) : Int)) ((p : Nat) : Int) := sg_mul (up9 (by omega)) (up9 hp)
      dsimp only [fSeq, fIfS, fRet, fRetN, fDrop, fAsg, fName, fGseq, fGtup, fGcons, fGnil, fVar, fK, f1, f2, fNil, fCons, fTup, fLst, fCall, fCall0, fCallG, fCallK, fCallK0, fRaise, fTry, tryX, fTest, gNot, gAnd, gOr, hAnd, hOr, hNot, fIf, fPar2, fPar3, fSkip, fNever, fBrk, fCnt, fIt, fItT, fItL, fFor, forL, startD, entry, pick, D.isNon,
  DL.lt', DL.le', DL.gt', DL.ge', fSl, fPart, fNo, List.map_cons, List.map_nil, List.length_cons, List.length_nil, List.append_nil, List.nil_append, List.cons_append, List.getElem?_cons_zero, List.getElem?_cons_succ, List.set_cons_zero, List.set_cons_succ, List.replicate_succ, List.replicate_zero, List.filterMap_cons, List.filterMap_nil, Nat.zero_add, Nat.reduceAdd, if_true, if_false, Bool.false_eq_true]
      simp only [ev_add_int, ev_add_lst, ev_add_tup, ev_add_str, ev_cat, ev_cmp, ev_sub, ev_mul, ev_div, ev_mod, ev_pow, ev_max2, ev_min2, ev_gcd, ev_neg, ev_abs, ev_int, ev_intb, ev_len_tup, ev_len_lst, ev_tuple_tup, ev_tuple_lst, ev_list_tup, ev_list_lst, ev_rev, ev_rep, ev_ix0t, ev_ix1t, ev_ix2t, ev_ix0l, ev_ix1l, ev_eq_int, ev_eq_str, ev_isn, ev_is2n, ev_is2b, ev_ty_non, ev_ty_bl, ev_ty_int, ev_ty_str, ev_ty_tup, ev_ty_lst, ne, fmod_cast, true_and, ne_eq, not_false_eq_true, Bool.false_xor]
      have fin : ∀ o i l p', p' = p + 1 → Sqi dd.natAbs o i l p' → nx (sqst dd o i l p') := fun o i l p' e h => hn (dd.natAbs + 2 - p') _ (by omega) ⟨o, i, l, p', rfl, rfl, by omega, h⟩
      by_cases hd : l' % p = 0
      · have hd' : ((l' % p : Nat) : Int) = 0 := by omega
        simp only [hd', decide_true, if_true]
        refine ⟨dk, mi, show (1 : Nat) < 6 by decide, show (3 : Nat) < 6 by decide, ?_⟩
        rw [fdiv_cast]
        have := fin o' (i * p) (l' / p) (p + 1) rfl (hq'.once hn' (Nat.dvd_of_mod_eq_zero hd))
        unfold sqst at this
        rw [Int.natCast_mul, ← Int.mul_assoc] at this
        exact this
      · have hd' : ¬ ((l' % p : Nat) : Int) = 0 := by omega
        simp only [hd', decide_false, Bool.false_eq_true, if_false]
        exact fin o' i l' (p + 1) rfl (hq'.skip fun dv => hd (Nat.mod_eq_zero_of_dvd dv))
    · have hc' : ¬ ((p * p * p : Nat) : Int) ≤ ((l : Nat) : Int) := by omega
      simp only [hc', decide_false, Bool.false_eq_true, if_false]
      refine square_root_go _ _ l (Nat.lt_of_le_of_lt le (Nat.lt_trans hb (Nat.pow_lt_pow_right (by decide) (by decide)))) fun r r1 r2 => ⟨show (5 : Nat) < 6 by decide, ?_⟩
      have rl : r ≤ l := by
        rcases Nat.eq_zero_or_pos r with z | z
        · omega
        · exact Nat.le_trans (Nat.le_mul_of_pos_left r z) r1
      have rr : ((r : Nat) : Int) * ((r : Nat) : Int) = ((r * r : Nat) : Int) := (Int.natCast_mul ..).symm
      have ole : o ≤ dd.natAbs := by
        have : o * 1 ≤ o * (o * i * l) := Nat.mul_le_mul_left _ (Nat.mul_pos (Nat.mul_pos hq.o1 hq.i1) hq.l1)
        have : o * (o * i * l) = o * o * i * l := by grind
        omega
      have ile : i ≤ dd.natAbs := by
        have : i * 1 ≤ i * (o * o * l) := Nat.mul_le_mul_left _ (Nat.mul_pos (Nat.mul_pos hq.o1 hq.o1) hq.l1)
        have : i * (o * o * l) = o * o * i * l := by grind
        omega
      have m3 := (mo (a := r) (b := r) (by omega) (by omega)).1
      have m4 := (mo (a := o) (b := r) (by omega) (by omega)).1
      have mi : IntMulOk (sgI dd * ((i : Nat) : Int)) ((l : Nat) : Int) := sg_mul (up9 (by omega)) (up9 (by omega))
      simp only [ev_add_int, ev_add_lst, ev_add_tup, ev_add_str, ev_cat, ev_cmp, ev_sub, ev_mul, ev_div, ev_mod, ev_pow, ev_max2, ev_min2, ev_gcd, ev_neg, ev_abs, ev_int, ev_intb, ev_len_tup, ev_len_lst, ev_tuple_tup, ev_tuple_lst, ev_list_tup, ev_list_lst, ev_rev, ev_rep, ev_ix0t, ev_ix1t, ev_ix2t, ev_ix0l, ev_ix1l, ev_eq_int, ev_eq_str, ev_isn, ev_is2n, ev_is2b, ev_ty_non, ev_ty_bl, ev_ty_int, ev_ty_str, ev_ty_tup, ev_ty_lst, m3, rr, true_and, Bool.false_xor]
      by_cases hr : r * r = l
      · have hr' : ((r * r : Nat) : Int) = ((l : Nat) : Int) := by omega
        simp only [hr', decide_true, if_true]
        refine ⟨m4, LNle (by decide), ?_⟩
        rw [← Int.natCast_mul]
        refine h (o * r) i (Nat.mul_pos hq.o1 ?_) ?_ hq.isf
        · have := hq.l1
          rcases Nat.eq_zero_or_pos r with z | z
          · subst z; omega
          · exact z
        · rw [hq.eq, ← hr]; grind
      · have hr' : ¬ ((r * r : Nat) : Int) = ((l : Nat) : Int) := by omega
        simp only [hr', decide_false, Bool.false_eq_true, if_false]
        refine ⟨mi, LNle (by decide), ?_⟩
        rw [Int.mul_assoc, ← Int.natCast_mul]
        refine h o (i * l) hq.o1 (by rw [hq.eq]; grind) (hq.done (by omega) fun r' e => hr ?_)
        have a1 : r' < r + 1 := by
          apply Classical.byContradiction
          intro hcc
          have := Nat.mul_le_mul (show r + 1 ≤ r' by omega) (show r + 1 ≤ r' by omega)
          omega
        have a2 : r ≤ r' := by
          apply Classical.byContradiction
          intro hcc
          have := Nat.mul_lt_mul'' (show r' < r by omega) (show r' < r by omega)
          omega
        have : r = r' := by omega
        rw [this]; exact e
  rw [fn_square_parts_eq]; unfold g_square_parts
  refine ⟨rfl, ?_⟩
  have ea : absI dd = ((dd.natAbs : Nat) : Int) := by unfold absI; split <;> omega
  dsimp only [fSeq, fIfS, fRet, fRetN, fDrop, fAsg, fName, fGseq, fGtup, fGcons, fGnil, fVar, fK, f1, f2, fNil, fCons, fTup, fLst, fCall, fCall0, fCallG, fCallK, fCallK0, fRaise, fTry, tryX, fTest, gNot, gAnd, gOr, hAnd, hOr, hNot, fIf, fPar2, fPar3, fSkip, fNever, fBrk, fCnt, fIt, fItT, fItL, fFor, forL, startD, entry, pick, D.isNon,
  DL.lt', DL.le', DL.gt', DL.ge', fSl, fPart, fNo, List.map_cons, List.map_nil, List.length_cons, List.length_nil, List.append_nil, List.nil_append, List.cons_append, List.getElem?_cons_zero, List.getElem?_cons_succ, List.set_cons_zero, List.set_cons_succ, List.replicate_succ, List.replicate_zero, List.filterMap_cons, List.filterMap_nil, Nat.zero_add, Nat.reduceAdd, if_true, if_false, Bool.false_eq_true]
  simp only [Nat.sub_self, Nat.reduceSub, List.replicate_zero, List.map_cons, List.map_nil, List.cons_append, List.nil_append, List.append_nil, List.getElem?_cons_zero, List.getElem?_cons_succ, List.set_cons_zero, List.set_cons_succ, List.length_cons, List.length_nil, Nat.zero_add, Nat.reduceAdd, Nat.reduceLT, Nat.reduceLeDiff, ev_add_int, ev_add_lst, ev_add_tup, ev_add_str, ev_cat, ev_cmp, ev_sub, ev_mul, ev_div, ev_mod, ev_pow, ev_max2, ev_min2, ev_gcd, ev_neg, ev_abs, ev_int, ev_intb, ev_len_tup, ev_len_lst, ev_tuple_tup, ev_tuple_lst, ev_list_tup, ev_list_lst, ev_rev, ev_rep, ev_ix0t, ev_ix1t, ev_ix2t, ev_ix0l, ev_ix1l, ev_eq_int, ev_eq_str, ev_isn, ev_is2n, ev_is2b, ev_ty_non, ev_ty_bl, ev_ty_int, ev_ty_str, ev_ty_tup, ev_ty_lst, DL.gt', ea]
  unfold sqst at main
  unfold sgI at main
  by_cases hd : dd > 0
  · have hd' : 0 < dd := hd
    simp only [hd, hd', decide_true, if_true] at main ⊢
    exact ⟨LNle (by decide), trivial, trivial, trivial, trivial, trivial, trivial, main⟩
  · have hd' : ¬ 0 < dd := hd
    simp only [hd', hd, decide_false, if_false, Bool.false_eq_true] at main ⊢
    exact ⟨LNle (by decide), trivial, trivial, trivial, trivial, trivial, trivial, main⟩
theorem is_squarefree_go (dd : Int) (h : ∀ b : Bool, (b = true ↔ (dd ≠ 0 ∧ dd.natAbs ≤ 10 ^ 12 ∧ SF dd.natAbs)) → q (.bl b)) : fn_is_squarefree [.int dd] q x := by
  rw [fn_is_squarefree_eq]; unfold g_is_squarefree
  refine ⟨rfl, ?_⟩
  have ea : absI dd = ((dd.natAbs : Nat) : Int) := by unfold absI; split <;> omega
  dsimp only [fSeq, fIfS, fRet, fRetN, fDrop, fAsg, fName, fGseq, fGtup, fGcons, fGnil, fVar, fK, f1, f2, fNil, fCons, fTup, fLst, fCall, fCall0, fCallG, fCallK, fCallK0, fRaise, fTry, tryX, fTest, gNot, gAnd, gOr, hAnd, hOr, hNot, fIf, fPar2, fPar3, fSkip, fNever, fBrk, fCnt, fIt, fItT, fItL, fFor, forL, startD, entry, pick, D.isNon,
  DL.lt', DL.le', DL.gt', DL.ge', fSl, fPart, fNo, List.map_cons, List.map_nil, List.length_cons, List.length_nil, List.append_nil, List.nil_append, List.cons_append, List.getElem?_cons_zero, List.getElem?_cons_succ, List.set_cons_zero, List.set_cons_succ, List.replicate_succ, List.replicate_zero, List.filterMap_cons, List.filterMap_nil, Nat.zero_add, Nat.reduceAdd, if_true, if_false, Bool.false_eq_true]
  simp only [Nat.sub_self, Nat.reduceSub, List.replicate_zero, List.map_cons, List.map_nil, List.cons_append, List.nil_append, List.append_nil, List.getElem?_cons_zero, List.getElem?_cons_succ, List.set_cons_zero, List.set_cons_succ, List.length_cons, List.length_nil, Nat.zero_add, Nat.reduceAdd, Nat.reduceLT, Nat.reduceLeDiff, ev_add_int, ev_add_lst, ev_add_tup, ev_add_str, ev_cat, ev_cmp, ev_sub, ev_mul, ev_div, ev_mod, ev_pow, ev_max2, ev_min2, ev_gcd, ev_neg, ev_abs, ev_int, ev_intb, ev_len_tup, ev_len_lst, ev_tuple_tup, ev_tuple_lst, ev_list_tup, ev_list_lst, ev_rev, ev_rep, ev_ix0t, ev_ix1t, ev_ix2t, ev_ix0l, ev_ix1l, ev_eq_int, ev_eq_str, ev_isn, ev_is2n, ev_is2b, ev_ty_non, ev_ty_bl, ev_ty_int, ev_ty_str, ev_ty_tup, ev_ty_lst, ea, DL.le', Bool.true_xor]
  by_cases h0 : dd = 0
  · simp only [h0, decide_true, Bool.not_true, Bool.false_eq_true, if_false]
    exact h false ⟨fun e => absurd e Bool.false_ne_true, fun e => absurd h0 e.1⟩
  · simp only [h0, decide_false, Bool.not_false, if_true]
    by_cases h1 : ((dd.natAbs : Nat) : Int) ≤ 1000000000000
    · simp only [h1, decide_true, if_true]
      have h2 : dd.natAbs ≤ 10 ^ 12 := by omega
      refine square_parts_go _ _ dd h0 (Nat.lt_of_le_of_lt h2 (Nat.lt_of_lt_of_le (show 10 ^ 12 < 2 ^ 40 by decide) (Nat.pow_le_pow_right (by decide) (by decide)))) fun o i o1 e1 sf => ?_
      rw [ev_ix0t, ev_eq_int, Bool.false_xor]
      refine h _ ⟨fun e => ?_, fun ⟨_, _, e⟩ => decide_eq_true ?_⟩
      · have e := of_decide_eq_true e
        have : o = 1 := by omega
        subst this
        have e1 : dd.natAbs = i := by omega
        exact ⟨h0, h2, by rw [e1]; exact sf⟩
      · have := (sq_uniq sf e o1 (Nat.le_refl 1) (by rw [← e1]; simp)).1
        omega
    · simp only [h1, decide_false, Bool.false_eq_true, if_false]
      exact h false ⟨fun e => absurd e Bool.false_ne_true, fun e => absurd e.2.1 (by omega)⟩
theorem SF.small {n B : Nat} (h0 : 0 < n) (hB : n < B * B) (h : ∀ t, t < B → 2 ≤ t → ¬ t * t ∣ n) : SF n := fun t ht hd => by
  have := Nat.le_of_dvd h0 hd
  refine h t ?_ ht hd
  apply Classical.byContradiction
  intro hc
  have := Nat.mul_le_mul (show B ≤ t by omega) (show B ≤ t by omega)
  omega
theorem Rt.of {d : Int} (h1 : d ≠ 1) (h0 : d ≠ 0) (hs : d.natAbs ≤ 10 ^ 12) (h : SF d.natAbs) : Rt d :=
  ⟨h1, h0, Nat.lt_of_le_of_lt hs (Nat.lt_of_lt_of_le (show 10 ^ 12 < 2 ^ 40 by decide) (Nat.pow_le_pow_right (by decide) (by decide))), fun q x hq => is_squarefree_go q x d fun b hb => by rw [hb.mpr ⟨h0, hs, h⟩]; exact hq⟩
end
theorem Rt.drawn {d : Int} (h : d ∈ [2, 3, -1, 5, -3, 6, -2, 21, -35, 101, 9973]) : Rt d := by
  refine Rt.of ?_ ?_ ?_ (SF.small (B := 100) ?_ ?_ ?_)
  all_goals (revert d; decide)

section
variable {d : Int} (x : XD) (q : D → Prop)
theorem ev_revT (xs : List D) : sRevT (.tup xs) q x = q (.tup xs.reverse) := rfl
abbrev atS (PL TI : Fn) : FS := (fFor (fIt (f1 sRevT (fVar 0))) (fName 3) (fAsg (fCall PL [] (fCons (fCall TI [] (fCons (fVar 2) (fCons (fVar 1) fNil))) (fCons (fVar 3) fNil))) (fName 2)))
theorem rev_cons {α : Type} {pre r : List α} {a : α} (h : a :: r = pre.reverse) : pre = r.reverse ++ [a] := by
  have := congrArg List.reverse h
  rw [List.reverse_cons, List.reverse_reverse] at this
  exact this.symm
theorem at_loop {PL TI : Fn} (A : Ari PL TI d) (r : Rt d) {l : List (El d)} {e : El d} {n S B T C : Nat} (hs : Hs l e n S B T C) (dn : DEnds) (s3 : Option D) (nx : ∀ s3', dn.nx [some (pd l), some (nd e), some (nd (ev e l)), s3']) :
    atS PL TI [some (pd l), some (nd e), some (nd (0 : El d)), s3] dn := by
  show forL _ _ _ (l.map nd).reverse _
  rw [← List.map_reverse]
  have se : Sm e := r.sz hs.pe (Nat.lt_of_le_of_lt hs.le hs.t) hs.t
  refine forL_map (f := nd) (fun rest ρ => ∃ (pre suf : List (El d)) (s3 : Option D), l = pre ++ suf ∧ rest = pre.reverse ∧ ρ = [some (pd l), some (nd e), some (nd (ev e suf)), s3]) ?_ ?_ l.reverse _ ⟨l, [], s3, by simp, rfl, rfl⟩
  · rintro ρ ⟨pre, suf, s3, h1, h2, rfl⟩
    have : pre = [] := by simpa using congrArg List.reverse h2.symm
    subst this
    rw [h1]
    rw [h1] at nx
    exact nx s3
  · rintro a rest ρ ⟨pre, suf, s3, h1, h2, rfl⟩ nx' hn
    have h3 := rev_cons h2
    subst h3
    have hl := hs.len
    rw [h1, List.length_append, List.length_append, List.length_singleton] at hl
    have pa : Sz a S B := hs.pl.all a (by rw [h1]; simp)
    have ps : Ps suf S B := ⟨hs.pl.pos, fun b hb => hs.pl.all b (by rw [h1]; simp [hb])⟩
    have n1 : 1 ≤ n := by omega
    have sa : Sm a := by
      have := hs.sm r [a] (by rw [List.length_singleton]; exact n1) (.cons pa (.nil hs.pl.pos))
      have e1 : ev e [a] = a := by show a + e * 0 = a; grind
      rwa [e1] at this
    have s0 := hs.sm r suf (by omega) ps
    have s1 := hs.sm r (0 :: suf) (by rw [List.length_cons]; omega) (.cons (.zero hs.pl.pos) ps)
    have e1 : ev e (0 :: suf) = ev e suf * e := by show (0 : El d) + e * ev e suf = _; grind
    rw [e1] at s1
    refine ⟨show (3 : Nat) < 4 by decide, ?_⟩
    dsimp only [fSeq, fIfS, fRet, fRetN, fDrop, fAsg, fName, fGseq, fGtup, fGcons, fGnil, fVar, fK, f1, f2, fNil, fCons, fTup, fLst, fCall, fCall0, fCallG, fCallK, fCallK0, fRaise, fTry, tryX, fTest, gNot, gAnd, gOr, hAnd, hOr, hNot, fIf, fPar2, fPar3, fSkip, fNever, fBrk, fCnt, fIt, fItT, fItL, fFor, forL, startD, entry, pick, D.isNon,
  DL.lt', DL.le', DL.gt', DL.ge', fSl, fPart, fNo, List.map_cons, List.map_nil, List.length_cons, List.length_nil, List.append_nil, List.nil_append, List.cons_append, List.getElem?_cons_zero, List.getElem?_cons_succ, List.set_cons_zero, List.set_cons_succ, List.replicate_succ, List.replicate_zero, List.filterMap_cons, List.filterMap_nil, Nat.zero_add, Nat.reduceAdd, if_true, if_false, Bool.false_eq_true]
    refine A.ti _ _ _ _ s0 se (A.pl _ _ _ _ s1 sa ⟨show (2 : Nat) < 4 by decide, ?_⟩)
    have e2 : ev e suf * e + a = ev e (a :: suf) := by show _ = a + e * ev e suf; grind
    rw [e2]
    exact hn _ ⟨rest.reverse, a :: suf, some (nd a), by rw [h1]; simp, by rw [List.reverse_reverse], rfl⟩
end

section
variable {d : Int} (x : XD) (q : D → Prop)
abbrev ki (k : Int) : El d := ⟨(k : Rat), 0⟩
theorem num_go (k : Int) (h : q (nd (ki k : El d))) : fn_num [.int k, .int 1] q x := by
  rw [fn_num_eq]; unfold g_num
  refine ⟨rfl, ?_⟩
  show fn_lowered [.int k, .int 0, .int 1, .int 1] q x
  rw [lowered_eq (d := d) (e := ki k) (P := k) (Q := 0) (S := 1) (dd := 1) _ _ (by decide) (by show (k : Rat) = (k : Rat) * ((1 : Int) : Rat); grind) (by show ((0 : Int) : Rat) = 0 * _; grind) (Nat.one_lt_two_pow (by decide)) (fun h => absurd rfl h)]
  exact h
theorem ki_add (j k : Int) : (ki j : El d) + ki k = ki (j + k) := by
  ext
  · show (j : Rat) + (k : Rat) = ((j + k : Int) : Rat); grind
  · show (0 : Rat) + 0 = 0; grind
theorem ki_zero : (ki 0 : El d) = 0 := rfl
theorem ki_one : (ki 1 : El d) = 1 := rfl
theorem ki_inj {j k : Int} (h : (ki j : El d) = ki k) : j = k := by
  have := congrArg El.a h
  exact rcast_inj this
/-- sizes for a polynomial put into a polynomial of degree 1 (integers at most L) -/
structure Ms {d : Int} (l : List (El d)) (n S B L M : Nat) : Prop where
  pl : Pg l n S B
  s : S < 2 ^ 4000
  m : n * L + 1 ≤ M
  b : M ^ n * B < 2 ^ 4000
  l : L < 2 ^ 4000
  n : n ≤ 100
theorem Ms.step {l : List (El d)} {n S B L M k : Nat} (h : Ms l n S B L M) (hk : k + 1 ≤ n) : k * (M ^ k * B * L) + B ≤ M ^ (k + 1) * B ∧ M ^ (k + 1) * B < 2 ^ 4000 ∧ n * (M ^ k * B * L) < 2 ^ 4000 ∧ M ^ k * B < 2 ^ 4000 ∧ B < 2 ^ 4000 := by
  have hm := h.m
  have m1 : 1 ≤ M := by omega
  have p1 : 1 ≤ M ^ k := Nat.one_le_pow _ _ m1
  have a1 : (n * L + 1) * (M ^ k * B) ≤ M ^ (k + 1) * B := by
    rw [Nat.pow_succ, Nat.mul_comm (M ^ k) M, Nat.mul_assoc]
    exact Nat.mul_le_mul_right _ hm
  have a2 : (n * L + 1) * (M ^ k * B) = n * (M ^ k * B * L) + M ^ k * B := by grind
  have a3 : B ≤ M ^ k * B := Nat.le_mul_of_pos_left _ p1
  have a4 : k * (M ^ k * B * L) ≤ n * (M ^ k * B * L) := Nat.mul_le_mul_right _ (by omega)
  have a5 : M ^ (k + 1) * B ≤ M ^ n * B := Nat.mul_le_mul_right _ (Nat.pow_le_pow_right m1 hk)
  have hb := h.b
  generalize 2 ^ 4000 = Z at *
  refine ⟨by omega, by omega, by omega, by omega, by omega⟩
theorem Sz.sm' (r : Rt d) {l : List (El d)} {n S B : Nat} (h : Pg l n S B) (hS : S < 2 ^ 4000) (hB : B < 2 ^ 4000) : ∀ e ∈ l, Sm e := fun e he => r.sz (h.sz.all e he) hS hB
/-- found * line + [a] -/
theorem sub_step (r : Rt d) {l ln F : List (El d)} {a : El d} {n S B L M k : Nat} (h : Ms l n S B L M) (hk : k + 1 ≤ n) (hln : Pg ln 2 1 L) (hF : Pg F k S (M ^ k * B)) (ha : Sz a S B) (hF1 : F.length ≤ k)
    {PL TI CU : Fn}
    (PLc : ∀ {u v : List (El d)} {q : D → Prop}, (∀ e ∈ u, Sm e) → (∀ e ∈ v, Sm e) → u.length ≤ 900 → v.length ≤ 900 → q (pd (cut (padd u v))) → PL [pd u, pd v] q x)
    (TIc : ∀ {u v : List (El d)} {n k S T B C : Nat} {q : D → Prop}, Pg u n S B → Pg v k T C → S * T < 2 ^ 4000 → n * (B * C) < 2 ^ 4000 → B < 2 ^ 4000 → C < 2 ^ 4000 → n + k ≤ 10000 → q (pd (cut (pmul u v))) → TI [pd u, pd v] q x)
    (CUc : ∀ {u : List (El d)} {q : D → Prop}, q (pd (cut u)) → CU [.lst (u.map nd)] q x)
    (hq : ∀ F', Pg F' (k + 1) S (M ^ (k + 1) * B) → po F' = po F * po ln + Po.C a → q (pd F')) :
    TI [pd F, pd ln] (fun u => 1 ≤ LN ∧ CU [.lst [nd a]] (fun v => PL [u, v] q x) x) x := by
  obtain ⟨e1, e2, e3, e4, e5⟩ := h.step hk
  have hn := h.n
  have b1 : k * (M ^ k * B * L) ≤ n * (M ^ k * B * L) := Nat.mul_le_mul_right _ (by omega)
  refine TIc hF hln (by rw [Nat.mul_one]; exact h.s) (Nat.lt_of_le_of_lt b1 e3) e4 h.l (by omega) ?_
  have p1 : Pg (cut (pmul F ln)) (k + 1) S (k * (M ^ k * B * L)) := by
    have := hF.mul hln
    rw [Nat.mul_one] at this
    exact this.mono (by omega) (Nat.le_refl _)
  have p2 : Pg (cut [a]) 1 S B := Pg.cut (.cons ha (.nil ha.pos)) (cut_len [a])
  refine ⟨LNle (by decide), CUc (u := [a]) ?_⟩
  have l1 := p1.len
  have l2 := p2.len
  refine PLc (Sz.sm' r p1 h.s (Nat.lt_of_le_of_lt b1 e3)) (Sz.sm' r p2 h.s e5) (by omega) (by omega) ?_
  refine hq _ ((p1.add p2).mono (by omega) (by omega)) ?_
  rw [po_cut]
  show po (cut (pmul F ln)) + po (cut [a]) = _
  rw [po_cut, po_cut]
  rfl
theorem line_sz (s t : Int) {L : Nat} (h1 : s.natAbs ≤ L) (h2 : t.natAbs ≤ L) : Pg (cut [(ki t : El d), ki s]) 2 1 L := Pg.cut (.cons (.int t h2) (.cons (.int s h1) (.nil (by decide)))) (cut_len _)
theorem line_po (s t : Int) : po (cut [(ki t : El d), ki s]) = Po.C (ki t) + PX * Po.C (ki s) := by
  rw [po_cut, po_cons _ [ki s], po_cons (ki s) [], po_nil]
  show _ + PX * (_ + PX * 0) = _
  grind
end

section
variable {d : Int} (x : XD) (q : D → Prop)
theorem mv_eq (k : Int) : Po.C (ki k : El d) + PX * Po.C (ki 1) = PX + Po.C (ki k) := by rw [ki_one, C_one]; grind
end

section
variable (q : D → Prop) (x : XD)
theorem draw_go (n : Int) (h0 : 1 ≤ n) (h1 : n < 1073741824) (h : ∀ r : Int, 0 ≤ r → r < n → q (.int r)) : fnDraw [.int n] q x := ⟨n, rfl, h0, h1, h⟩
theorem pick_go (ds : List D) (h0 : ds ≠ []) (h1 : ds.length < 1073741824) (h : ∀ a ∈ ds, q a) : fn__law_pick [.lst ds] q x := by
  rw [fn__law_pick_eq]; unfold g__law_pick
  refine ⟨rfl, fun a => ⟨rfl, draw_go _ _ _ ?_ (by omega) fun r r0 r1 => ?_⟩⟩
  · have := List.length_pos_iff.mpr h0; omega
  · obtain ⟨k, rfl⟩ := Int.eq_ofNat_of_zero_le r0
    have hk : k < ds.length := by omega
    rw [ev_ix_lst _ _ (DL.atI_nat (List.getElem?_eq_getElem hk))]
    exact h _ (List.getElem_mem hk)
theorem near_go (n : Int) (h0 : 0 ≤ n) (h1 : n < 100000000) (h : ∀ r : Int, -n ≤ r → r ≤ n → q (.int r)) : fn__law_near [.int n] q x := by
  rw [fn__law_near_eq]; unfold g__law_near
  refine ⟨rfl, fun a => ?_⟩
  dsimp only [fSeq, fIfS, fRet, fRetN, fDrop, fAsg, fName, fGseq, fGtup, fGcons, fGnil, fVar, fK, f1, f2, fNil, fCons, fTup, fLst, fCall, fCall0, fCallG, fCallK, fCallK0, fRaise, fTry, tryX, fTest, gNot, gAnd, gOr, hAnd, hOr, hNot, fIf, fPar2, fPar3, fSkip, fNever, fBrk, fCnt, fIt, fItT, fItL, fFor, forL, startD, entry, pick, D.isNon,
  DL.lt', DL.le', DL.gt', DL.ge', fSl, fPart, fNo, List.map_cons, List.map_nil, List.length_cons, List.length_nil, List.append_nil, List.nil_append, List.cons_append, List.getElem?_cons_zero, List.getElem?_cons_succ, List.set_cons_zero, List.set_cons_succ, List.replicate_succ, List.replicate_zero, List.filterMap_cons, List.filterMap_nil, Nat.zero_add, Nat.reduceAdd, if_true, if_false, Bool.false_eq_true]
  simp only [Nat.sub_self, Nat.reduceSub, List.replicate_zero, List.map_cons, List.map_nil, List.cons_append, List.nil_append, List.append_nil, List.getElem?_cons_zero, List.getElem?_cons_succ, List.set_cons_zero, List.set_cons_succ, List.length_cons, List.length_nil, Nat.zero_add, Nat.reduceAdd, Nat.reduceLT, Nat.reduceLeDiff, ev_add_int, ev_add_lst, ev_add_tup, ev_add_str, ev_cat, ev_cmp, ev_sub, ev_mul, ev_div, ev_mod, ev_pow, ev_max2, ev_min2, ev_gcd, ev_neg, ev_abs, ev_int, ev_intb, ev_len_tup, ev_len_lst, ev_tuple_tup, ev_tuple_lst, ev_list_tup, ev_list_lst, ev_rev, ev_rep, ev_ix0t, ev_ix1t, ev_ix2t, ev_ix0l, ev_ix1l, ev_eq_int, ev_eq_str, ev_isn, ev_is2n, ev_is2b, ev_ty_non, ev_ty_bl, ev_ty_int, ev_ty_str, ev_ty_tup, ev_ty_lst]
  refine ⟨mulOk_l (by decide) (by decide), trivial, draw_go _ _ _ (by omega) (by omega) fun r r0 r1 => ?_⟩
  rw [ev_sub]
  exact h _ (by omega) (by omega)
theorem great_go (n : Int) (h0 : 1 ≤ n) (h : ∀ r : Int, 0 ≤ r → r < n → q (.int r)) : fn__law_great [.int n] q x := by
  rw [fn__law_great_eq]; unfold g__law_great
  refine ⟨rfl, fun a => ?_⟩
  dsimp only [fSeq, fIfS, fRet, fRetN, fDrop, fAsg, fName, fGseq, fGtup, fGcons, fGnil, fVar, fK, f1, f2, fNil, fCons, fTup, fLst, fCall, fCall0, fCallG, fCallK, fCallK0, fRaise, fTry, tryX, fTest, gNot, gAnd, gOr, hAnd, hOr, hNot, fIf, fPar2, fPar3, fSkip, fNever, fBrk, fCnt, fIt, fItT, fItL, fFor, forL, startD, entry, pick, D.isNon,
  DL.lt', DL.le', DL.gt', DL.ge', fSl, fPart, fNo, List.map_cons, List.map_nil, List.length_cons, List.length_nil, List.append_nil, List.nil_append, List.cons_append, List.getElem?_cons_zero, List.getElem?_cons_succ, List.set_cons_zero, List.set_cons_succ, List.replicate_succ, List.replicate_zero, List.filterMap_cons, List.filterMap_nil, Nat.zero_add, Nat.reduceAdd, if_true, if_false, Bool.false_eq_true]
  have p6 : ((10 : Int) ^ (6 : Int).toNat) = 1000000 := by decide
  refine ⟨show (2 : Nat) < 4 by decide, show (3 : Nat) < 4 by decide, ?_⟩
  refine fWhile_inv (fun m ρ => ∃ u v : Int, ρ = [some (.ref a), some (.int n), some (.int u), some (.int v)] ∧ m = v.toNat ∧ 0 ≤ u) (m := n.toNat) ⟨0, n, rfl, rfl, by decide⟩ ?_
  rintro m ρ ⟨u, v, rfl, hm, hu⟩ nx hn
  subst m
  dsimp only [fSeq, fIfS, fRet, fRetN, fDrop, fAsg, fName, fGseq, fGtup, fGcons, fGnil, fVar, fK, f1, f2, fNil, fCons, fTup, fLst, fCall, fCall0, fCallG, fCallK, fCallK0, fRaise, fTry, tryX, fTest, gNot, gAnd, gOr, hAnd, hOr, hNot, fIf, fPar2, fPar3, fSkip, fNever, fBrk, fCnt, fIt, fItT, fItL, fFor, forL, startD, entry, pick, D.isNon,
  DL.lt', DL.le', DL.gt', DL.ge', fSl, fPart, fNo, List.map_cons, List.map_nil, List.length_cons, List.length_nil, List.append_nil, List.nil_append, List.cons_append, List.getElem?_cons_zero, List.getElem?_cons_succ, List.set_cons_zero, List.set_cons_succ, List.replicate_succ, List.replicate_zero, List.filterMap_cons, List.filterMap_nil, Nat.zero_add, Nat.reduceAdd, if_true, if_false, Bool.false_eq_true]
  simp only [ev_cmp, DL.gt']
  by_cases hv : 0 < v
  · simp only [hv, decide_true, if_true, ev_add_int, ev_add_lst, ev_add_tup, ev_add_str, ev_cat, ev_cmp, ev_sub, ev_mul, ev_div, ev_mod, ev_pow, ev_max2, ev_min2, ev_gcd, ev_neg, ev_abs, ev_int, ev_intb, ev_len_tup, ev_len_lst, ev_tuple_tup, ev_tuple_lst, ev_list_tup, ev_list_lst, ev_rev, ev_rep, ev_ix0t, ev_ix1t, ev_ix2t, ev_ix0l, ev_ix1l, ev_eq_int, ev_eq_str, ev_isn, ev_is2n, ev_is2b, ev_ty_non, ev_ty_bl, ev_ty_int, ev_ty_str, ev_ty_tup, ev_ty_lst, p6]
    have cp : CPow 10 6 := ⟨by decide, by decide, by decide⟩
    have m6 : ∀ z : Int, IntMulOk z 1000000 := fun z => mulOk_r (by decide) (by decide)
    have d6 : ∀ z : Int, DivOk z 1000000 := fun z => divOk_s (by decide) (by decide) (by decide)
    simp only [cp, m6, d6, true_and]
    refine draw_go _ _ _ (by decide) (by decide) fun r r0 r1 => ?_
    rw [ev_add_int]
    refine ⟨show (2 : Nat) < 4 by decide, show (3 : Nat) < 4 by decide, ?_⟩
    refine hn (v.fdiv 1000000).toNat _ ?_ ⟨_, _, rfl, rfl, by omega⟩
    rw [Int.fdiv_eq_ediv_of_nonneg _ (by decide)]
    omega
  · simp only [hv, decide_false, Bool.false_eq_true, if_false, ev_add_int, ev_add_lst, ev_add_tup, ev_add_str, ev_cat, ev_cmp, ev_sub, ev_mul, ev_div, ev_mod, ev_pow, ev_max2, ev_min2, ev_gcd, ev_neg, ev_abs, ev_int, ev_intb, ev_len_tup, ev_len_lst, ev_tuple_tup, ev_tuple_lst, ev_list_tup, ev_list_lst, ev_rev, ev_rep, ev_ix0t, ev_ix1t, ev_ix2t, ev_ix0l, ev_ix1l, ev_eq_int, ev_eq_str, ev_isn, ev_is2n, ev_is2b, ev_ty_non, ev_ty_bl, ev_ty_int, ev_ty_str, ev_ty_tup, ev_ty_lst]
    refine ⟨by omega, h _ (Int.fmod_nonneg_of_pos _ (by omega)) (Int.fmod_lt_of_pos _ (by omega))⟩
def dOf (d : Int) : Int := if d = 1 then 2 else d
theorem Rt.dOf {d : Int} (h : d ∈ [1, 1, 1, 2, 3, -1, 5, -3, 6, -2, 1, 1, 21, -35, 101, 9973]) : Rt (dOf d) ∧ (K01.dOf d).natAbs ≤ 9973 := by
  refine ⟨Rt.drawn ?_, ?_⟩
  · revert d; decide
  · revert d; decide
theorem made_one (P Q S : Int) (h : fn__law_made [.int (P + Q), .int 0, .int S, .int 1] q x) : fn__law_made [.int P, .int Q, .int S, .int 1] q x := by
  rw [fn__law_made_eq] at h ⊢
  unfold g__law_made at h ⊢
  dsimp only [fSeq, fIfS, fRet, fRetN, fDrop, fAsg, fName, fGseq, fGtup, fGcons, fGnil, fVar, fK, f1, f2, fNil, fCons, fTup, fLst, fCall, fCall0, fCallG, fCallK, fCallK0, fRaise, fTry, tryX, fTest, gNot, gAnd, gOr, hAnd, hOr, hNot, fIf, fPar2, fPar3, fSkip, fNever, fBrk, fCnt, fIt, fItT, fItL, fFor, forL, startD, entry, pick, D.isNon,
  DL.lt', DL.le', DL.gt', DL.ge', fSl, fPart, fNo, List.map_cons, List.map_nil, List.length_cons, List.length_nil, List.append_nil, List.nil_append, List.cons_append, List.getElem?_cons_zero, List.getElem?_cons_succ, List.set_cons_zero, List.set_cons_succ, List.replicate_succ, List.replicate_zero, List.filterMap_cons, List.filterMap_nil, Nat.zero_add, Nat.reduceAdd, if_true, if_false, Bool.false_eq_true] at h ⊢
  simp only [Nat.sub_self, Nat.reduceSub, List.replicate_zero, List.map_cons, List.map_nil, List.cons_append, List.nil_append, List.append_nil, List.getElem?_cons_zero, List.getElem?_cons_succ, List.set_cons_zero, List.set_cons_succ, List.length_cons, List.length_nil, Nat.zero_add, Nat.reduceAdd, Nat.reduceLT, Nat.reduceLeDiff, ev_add_int, ev_add_lst, ev_add_tup, ev_add_str, ev_cat, ev_cmp, ev_sub, ev_mul, ev_div, ev_mod, ev_pow, ev_max2, ev_min2, ev_gcd, ev_neg, ev_abs, ev_int, ev_intb, ev_len_tup, ev_len_lst, ev_tuple_tup, ev_tuple_lst, ev_list_tup, ev_list_lst, ev_rev, ev_rep, ev_ix0t, ev_ix1t, ev_ix2t, ev_ix0l, ev_ix1l, ev_eq_int, ev_eq_str, ev_isn, ev_is2n, ev_is2b, ev_ty_non, ev_ty_bl, ev_ty_int, ev_ty_str, ev_ty_tup, ev_ty_lst, decide_true, Bool.false_xor, if_true, Int.add_zero] at h ⊢
  exact h
abbrev S0 : Nat := 27720
abbrev B0 : Nat := 27720 * 120000
theorem sz_frac {d : Int} (P Q s : Int) (h1 : 1 ≤ s) (h2 : s ≤ 12) (hb : P.natAbs + Q.natAbs * d.natAbs ≤ 120000) : Sz (⟨(P : Rat) / s, (Q : Rat) / s⟩ : El d) S0 B0 := by
  have hk : ∃ k : Nat, (27720 : Int) = s * k ∧ k ≤ 27720 := by
    have : s = 1 ∨ s = 2 ∨ s = 3 ∨ s = 4 ∨ s = 5 ∨ s = 6 ∨ s = 7 ∨ s = 8 ∨ s = 9 ∨ s = 10 ∨ s = 11 ∨ s = 12 := by omega
    rcases this with e | e | e | e | e | e | e | e | e | e | e | e
    · exact ⟨27720, by rw [e]; decide, by decide⟩
    · exact ⟨13860, by rw [e]; decide, by decide⟩
    · exact ⟨9240, by rw [e]; decide, by decide⟩
    · exact ⟨6930, by rw [e]; decide, by decide⟩
    · exact ⟨5544, by rw [e]; decide, by decide⟩
    · exact ⟨4620, by rw [e]; decide, by decide⟩
    · exact ⟨3960, by rw [e]; decide, by decide⟩
    · exact ⟨3465, by rw [e]; decide, by decide⟩
    · exact ⟨3080, by rw [e]; decide, by decide⟩
    · exact ⟨2772, by rw [e]; decide, by decide⟩
    · exact ⟨2520, by rw [e]; decide, by decide⟩
    · exact ⟨2310, by rw [e]; decide, by decide⟩
  obtain ⟨k, hk, kb⟩ := hk
  have sr := rcast_ne (i := s) (by omega)
  have e0 : (((S0 : Nat) : Int) : Rat) = (s : Rat) * ((k : Int) : Rat) := by
    rw [← rcast_mul, ← hk]; rfl
  refine ⟨by decide, P * k, Q * k, ?_, ?_, ?_⟩
  · rw [rcast_mul, e0]
    show (P : Rat) * ((k : Int) : Rat) = (P : Rat) / s * (s * ((k : Int) : Rat))
    grind
  · rw [rcast_mul, e0]
    show (Q : Rat) * ((k : Int) : Rat) = (Q : Rat) / s * (s * ((k : Int) : Rat))
    grind
  · rw [Int.natAbs_mul, Int.natAbs_mul, Int.natAbs_natCast]
    have e : P.natAbs * k + Q.natAbs * k * d.natAbs = (P.natAbs + Q.natAbs * d.natAbs) * k := by grind
    rw [e]
    have := Nat.mul_le_mul hb kb
    show _ ≤ 27720 * 120000
    omega
theorem drawn_fin (dd P Q s : Int) (hd : dd ∈ [1, 1, 1, 2, 3, -1, 5, -3, 6, -2, 1, 1, 21, -35, 101, 9973]) (p : P.natAbs ≤ 12) (qq : Q.natAbs ≤ 12) (h1 : 1 ≤ s) (h2 : s ≤ 12) (h : ∀ e : El (dOf dd), Sz e S0 B0 → q (nd e)) : fn__law_made [.int P, .int Q, .int s, .int dd] q x := by
  have sr := rcast_ne (i := s) (by omega)
  have sb : s.natAbs < 2 ^ 9000 := Nat.lt_of_le_of_lt (show s.natAbs ≤ 12 by omega) (Nat.lt_of_lt_of_le (show 12 < 2 ^ 4 by decide) (Nat.pow_le_pow_right (by decide) (by decide)))
  have hb := (Rt.dOf hd).2
  by_cases h1' : dd = 1
  · subst h1'
    refine made_one _ _ _ _ _ (made_of (d := dOf 1) (e := ⟨((P + Q : Int) : Rat) / s, ((0 : Int) : Rat) / s⟩) _ _ (by omega) ?_ ?_ sb (fun z => absurd rfl z) (fun _ => rfl) (h _ (sz_frac _ _ _ h1 h2 ?_)))
    · show ((P + Q : Int) : Rat) = ((P + Q : Int) : Rat) / s * s
      grind
    · show ((0 : Int) : Rat) = ((0 : Int) : Rat) / s * s
      grind
    · simp; omega
  · have e : dOf dd = dd := by unfold dOf; rw [if_neg h1']
    rw [e] at h hb
    refine made_of (d := dd) (e := ⟨(P : Rat) / s, (Q : Rat) / s⟩) _ _ (by omega) ?_ ?_ sb (fun _ => rfl) (fun z => absurd z h1') (h _ (sz_frac _ _ _ h1 h2 ?_))
    · show (P : Rat) = (P : Rat) / s * s
      grind
    · show (Q : Rat) = (Q : Rat) / s * s
      grind
    · have := Nat.mul_le_mul qq hb
      omega
end

section
variable {d : Int} (q : D → Prop) (x : XD)
theorem oks_ints : ∀ l : List D, (∀ a ∈ l, a = .int 1) → D.oks l = true ∧ D.deps l = 0
  | [], _ => ⟨rfl, rfl⟩
  | a :: l, h => by
    obtain ⟨h1, h2⟩ := oks_ints l fun b hb => h b (List.mem_cons_of_mem _ hb)
    rw [h a (List.mem_cons_self ..)]
    exact ⟨by show (true && D.oks l) = true; rw [h1]; rfl, by show max 0 (D.deps l) = 0; rw [h2]; rfl⟩
end

/-! ### what is shown -/
section
variable {d : Int} (q : D → Prop) (x : XD)
theorem log_lt {i : Int} (h : i.natAbs < 2 ^ 1900) : i.natAbs.log2 < 1920 := by
  rcases Nat.eq_zero_or_pos i.natAbs with h0 | h0
  · rw [h0]; decide
  · exact Nat.lt_of_lt_of_le ((Nat.log2_lt (by omega)).mpr h) (by decide)
theorem nd_shows (r : Rt d) {e : El d} {S B : Nat} (h : Sz e S B) (hS : S < 2 ^ 1900) (hB : B < 2 ^ 1900) (hd : d.natAbs < 2 ^ 1900) : (nd e).shows = true := by
  obtain ⟨h1, h2, h3⟩ := h.canon r.ne0 (cn_ok e)
  rw [nd_eq]
  have hdn : (dn e).natAbs < 2 ^ 1900 := by
    unfold dn
    split
    · exact Nat.one_lt_two_pow (by decide)
    · exact hd
  have s1 := log_lt (i := (cn e).1) (by omega)
  have s2 := log_lt (i := (cn e).2.1) (by omega)
  have s3 := log_lt (i := (cn e).2.2) (by omega)
  have s4 := log_lt hdn
  show (decide _ && (decide _ && (decide _ && (decide _ && true)))) = true
  rw [decide_eq_true s1, decide_eq_true s2, decide_eq_true s3, decide_eq_true s4]; rfl
/-- data that may be shown, with at most so many signs -/
structure Rp (a : D) (n : Nat) : Prop where
  ok : a.okR = true
  sh : a.shows = true
  dp : a.dep ≤ 10
  ct : a.cost ≤ n
theorem Rp.num (r : Rt d) {e : El d} {S B : Nat} (h : Sz e S B) (hS : S < 2 ^ 1900) (hB : B < 2 ^ 1900) (hd : d.natAbs < 2 ^ 1900) : Rp (nd e) 9000 := ⟨rfl, nd_shows r h hS hB hd, by rw [nd_dep]; decide, by rw [nd_eq]; show (2000 + 2 + (2000 + 2 + (2000 + 2 + (2000 + 2 + 0)))) + 3 ≤ 9000; decide⟩
theorem Rp.mono {a : D} {n k : Nat} (h : Rp a n) (hk : n ≤ k) : Rp a k := ⟨h.ok, h.sh, h.dp, Nat.le_trans h.ct hk⟩
theorem Rp.tup2 {a b : D} {n k : Nat} (h : Rp a n) (h' : Rp b k) (h1 : a.dep ≤ 9) (h2 : b.dep ≤ 9) : Rp (.tup [a, b]) (n + k + 7) := by
  refine ⟨?_, ?_, ?_, ?_⟩
  · show (a.okR && (b.okR && true)) = true; rw [h.ok, h'.ok]; rfl
  · show (a.shows && (b.shows && true)) = true; rw [h.sh, h'.sh]; rfl
  · show max a.dep (max b.dep 0) + 1 ≤ 10; omega
  · show (a.cost + 2 + (b.cost + 2 + 0)) + 3 ≤ _; have := h.ct; have := h'.ct; omega
theorem nds_rp (r : Rt d) {S B : Nat} (hS : S < 2 ^ 1900) (hB : B < 2 ^ 1900) (hd : d.natAbs < 2 ^ 1900) : ∀ (l : List (El d)), Ps l S B → D.showss (l.map nd) = true ∧ D.costs (l.map nd) ≤ l.length * 9002
  | [], _ => ⟨rfl, Nat.le_refl _⟩
  | a :: l, h => by
    obtain ⟨h1, h2⟩ := nds_rp r hS hB hd l h.tail
    have ha := Rp.num r h.head hS hB hd
    refine ⟨?_, ?_⟩
    · show ((nd a).shows && D.showss (l.map nd)) = true; rw [ha.sh, h1]; rfl
    · show (nd a).cost + 2 + D.costs (l.map nd) ≤ (l.length + 1) * 9002
      have := ha.ct
      omega
theorem Rp.pol (r : Rt d) {l : List (El d)} {n S B : Nat} (h : Pg l n S B) (hS : S < 2 ^ 1900) (hB : B < 2 ^ 1900) (hd : d.natAbs < 2 ^ 1900) : Rp (pd l) (n * 9002 + 3) := by
  obtain ⟨h1, h2⟩ := nds_rp r hS hB hd l h.sz
  have := nds_dep l
  have := Nat.mul_le_mul_right 9002 h.len
  refine ⟨D.oks.r _ (nds_ok l), h1, ?_, ?_⟩
  · show D.deps (l.map nd) + 1 ≤ 10; omega
  · show D.costs (l.map nd) + 3 ≤ _; omega
theorem pd_dep (l : List (El d)) : (pd l).dep ≤ 9 := by have := nds_dep l; show D.deps (l.map nd) + 1 ≤ 9; omega
theorem repr_tup {xs : List D} {n : Nat} (h : Rp (.tup xs) n) (hn : n ≤ 1000000) : sReprT (.tup xs) q x = q (.str (D.tup xs).py.shown) := by
  refine propext ⟨fun h => h.2.2.2.2.2, fun hq => ⟨trivial, h.ok, h.sh, by have := h.dp; omega, Nat.le_trans h.ct hn, hq⟩⟩
theorem repr_nd {e : El d} {n : Nat} (h : Rp (nd e) n) (hn : n ≤ 1000000) : sReprT (nd e) q x = q (.str (nd e).py.shown) := repr_tup _ _ h hn
theorem repr_pd {l : List (El d)} {n : Nat} (h : Rp (pd l) n) (hn : n ≤ 1000000) : sReprT (pd l) q x = q (.str (pd l).py.shown) := repr_tup _ _ h hn
end
section
variable {d : Int} (q : D → Prop) (x : XD)
theorem repT {xs : List D} {n : Nat} (h : Rp (.tup xs) n) (hn : n ≤ 1000000) : sRepr (.tup xs) q x = q (.str (D.tup xs).py.shown) := propext ⟨fun h => h.2.2.2.2, fun hq => ⟨h.ok, h.sh, by have := h.dp; omega, Nat.le_trans h.ct hn, hq⟩⟩
theorem repN {e : El d} {n : Nat} (h : Rp (nd e) n) (hn : n ≤ 1000000) : sRepr (nd e) q x = q (.str (nd e).py.shown) := repT _ _ h hn
theorem repP {l : List (El d)} {n : Nat} (h : Rp (pd l) n) (hn : n ≤ 1000000) : sRepr (pd l) q x = q (.str (pd l).py.shown) := repT _ _ h hn
end
/-! ### the checks -/
section
variable {d : Int} (q : D → Prop) (x : XD)
theorem lim {n m : Nat} (h : n < 2 ^ 1000) : n < 2 ^ 4000 := Nat.lt_trans h (Nat.pow_lt_pow_right (by decide) (by decide))
theorem lim9 {n m : Nat} (h : n < 2 ^ 1000) : n < 2 ^ 1900 := Nat.lt_trans h (Nat.pow_lt_pow_right (by decide) (by decide))
theorem sEq_str (n : Bool) (s : Str) : sEq n (.str s) (.str s) q x = q (.bl (!n)) := by rw [ev_eq_str, decide_eq_true rfl]; cases n <;> rfl
end
/-! ### moved -/
section
variable {d : Int} (q : D → Prop) (x : XD)
theorem mv_mv {l F G : List (El d)} {k j : Int} (hF : po F = at_ Po.C (PX + Po.C (ki k)) l) (hG : po G = at_ Po.C (PX + Po.C (ki j)) F) : po G = at_ Po.C (PX + Po.C (ki (k + j))) l := by
  rw [hG, ← Sub_po, hF, Sub_at, Sub_add, Sub_X, Sub_C, ← ki_add, C_add]
  congr 1
  grind
theorem mv_zero {l : List (El d)} : at_ Po.C (PX + Po.C (ki 0)) l = po l := by
  rw [ki_zero, C_zero, po_at l]
  congr 1
  grind
theorem mv_ev {l F : List (El d)} {k : Int} (e : El d) (hF : po F = at_ Po.C (PX + Po.C (ki k)) l) : ev e F = ev (e + ki k) l := by
  rw [← Ev_po, hF, Ev_at, Ev_add, Ev_X, Ev_C]
theorem mv_add {l m t F G H : List (El d)} {k : Int} (et : po t = po l + po m) (hF : po F = at_ Po.C (PX + Po.C (ki k)) l) (hG : po G = at_ Po.C (PX + Po.C (ki k)) m) (hH : po H = at_ Po.C (PX + Po.C (ki k)) t) : po H = po F + po G := by
  rw [hF, hG, hH, ← Sub_po, ← Sub_po, ← Sub_po, et, Sub_add]
theorem mv_mul {l m t F G H : List (El d)} {k : Int} (et : po t = po l * po m) (hF : po F = at_ Po.C (PX + Po.C (ki k)) l) (hG : po G = at_ Po.C (PX + Po.C (ki k)) m) (hH : po H = at_ Po.C (PX + Po.C (ki k)) t) : po H = po F * po G := by
  rw [hF, hG, hH, ← Sub_po, ← Sub_po, ← Sub_po, et, Sub_mul]
end

end K01

set_option exponentiation.threshold 10000
namespace K01
open PySem PySem.Spec PyProof.Rows L2 DL DN
/-! ### sizes by one exponent -/
section
variable {d : Int} (q : D → Prop) (x : XD)
theorem p4000 {n m : Nat} (h : m ≤ 2 ^ n) (hn : n < 4000) : m < 2 ^ 4000 := Nat.lt_of_le_of_lt h (Nat.pow_lt_pow_right (by decide) hn)
theorem p1900 {n m : Nat} (h : m ≤ 2 ^ n) (hn : n < 1900) : m < 2 ^ 1900 := Nat.lt_of_le_of_lt h (Nat.pow_lt_pow_right (by decide) hn)
theorem Sx.sm (r : Rt d) {e : El d} {n : Nat} (h : Sx e n) (hn : n < 4000) : Sm e := by
  obtain ⟨S, B, h1, h2, h3⟩ := h.ex
  exact r.sz h1 (p4000 h2 hn) (p4000 h3 hn)
theorem Sx.rp (r : Rt d) (hd : d.natAbs < 2 ^ 1900) {e : El d} {n : Nat} (h : Sx e n) (hn : n < 1900) : Rp (nd e) 9000 := by
  obtain ⟨S, B, h1, h2, h3⟩ := h.ex
  exact Rp.num r h1 (p1900 h2 hn) (p1900 h3 hn) hd
/-- opposite -/
theorem canon_neg {e : El d} {p q s : Int} (c : Canon e p q s) : Canon (-e) (-p) (-q) s := by
  refine ⟨c.pos, ?_, ?_, ?_⟩
  · rw [← c.low]
    unfold gcdI
    simp
  · rw [Rat.intCast_neg, c.hp, El.neg_def]; grind
  · rw [Rat.intCast_neg, c.hq, El.neg_def]; grind
theorem neg_nd (e : El d) : nd (-e) = .tup [.int (-(cn e).1), .int (-(cn e).2.1), .int (cn e).2.2, .int (dn e)] := by
  rw [nd_of (canon_neg (cn_ok e))]
  unfold dn
  by_cases h : (cn e).2.1 = 0
  · rw [if_pos h, if_pos (by omega)]
  · rw [if_neg h, if_neg (by omega)]
/-! ### quotients -/
theorem sq_dn (e : El d) : (cn e).2.1 * (cn e).2.1 * dn e = (cn e).2.1 * (cn e).2.1 * d := by
  unfold dn
  by_cases h : (cn e).2.1 = 0
  · rw [h]; simp
  · rw [if_neg h]
/-- what quotients need of d -/
structure Rq (d : Int) : Prop where
  rt : Rt d
  nsq : Nsq d
  sm : d.natAbs ≤ 2 ^ 40
theorem two_mul {a b n : Nat} (h1 : a ≤ 2 ^ n) (h2 : b ≤ 2 ^ n) : a * b ≤ 2 ^ (n + n) := by rw [Nat.pow_add]; exact Nat.mul_le_mul h1 h2
theorem over_parts (r : Rq d) {b : El d} {n : Nat} (hb : Sx b n) (hn : n < 1900) :
    IntMulOk (cn b).2.2 (cn b).1 ∧ IntMulOk (cn b).2.2 (cn b).2.1 ∧ IntMulOk (cn b).1 (cn b).1 ∧ IntMulOk (cn b).2.1 (cn b).2.1 ∧ IntMulOk ((cn b).2.1 * (cn b).2.1) (dn b) ∧ IntMulOk (cn b).1 (cn b).2.2 ∧ IntMulOk (-(cn b).2.1) (cn b).2.2 ∧ ((cn b).1 * (cn b).1 - (cn b).2.1 * (cn b).2.1 * d).natAbs < 2 ^ 9000 := by
  obtain ⟨b1, b2, b3⟩ := hb.canon r.rt.ne0 (cn_ok b)
  have up : ∀ {i : Int}, i.natAbs ≤ 2 ^ n → i.natAbs < 2 ^ 9000 := fun h => Nat.lt_of_le_of_lt h (Nat.pow_lt_pow_right (by decide) (by omega))
  have qq : ((cn b).2.1 * (cn b).2.1).natAbs < 2 ^ 9000 := by
    rw [Int.natAbs_mul]
    exact Nat.lt_of_le_of_lt (two_mul b3 b3) (Nat.pow_lt_pow_right (by decide) (by omega))
  have dd : (dn b).natAbs < 2 ^ 9000 := by
    unfold dn
    split
    · exact Nat.one_lt_two_pow (by decide)
    · exact Nat.lt_of_le_of_lt r.sm (Nat.pow_lt_pow_right (by decide) (by decide))
  refine ⟨mulOk_b (up b1) (up b2), mulOk_b (up b1) (up b3), mulOk_b (up b2) (up b2), mulOk_b (up b3) (up b3), mulOk_b qq dd, mulOk_b (up b2) (up b1), mulOk_b (by rw [Int.natAbs_neg]; exact up b3) (up b1), ?_⟩
  have m3 := two_mul b2 b2
  have m4 : (cn b).2.1.natAbs * (cn b).2.1.natAbs * d.natAbs ≤ 2 ^ (n + n) * 2 ^ 40 := Nat.mul_le_mul (two_mul b3 b3) r.sm
  have : ((cn b).1 * (cn b).1 - (cn b).2.1 * (cn b).2.1 * d).natAbs ≤ (cn b).1.natAbs * (cn b).1.natAbs + (cn b).2.1.natAbs * (cn b).2.1.natAbs * d.natAbs := by
    refine Nat.le_trans (Int.natAbs_sub_le ..) ?_
    rw [Int.natAbs_mul, Int.natAbs_mul, Int.natAbs_mul]; exact Nat.le_refl _
  have e : 2 ^ (n + n + 41) = 2 ^ (n + n) * 2 ^ 40 * 2 := by rw [Nat.pow_succ, Nat.pow_add]
  have up2 : 2 ^ (n + n) ≤ 2 ^ (n + n) * 2 ^ 40 := Nat.le_mul_of_pos_right _ (by decide)
  refine Nat.lt_of_le_of_lt (show _ ≤ 2 ^ (n + n + 41) by rw [e]; omega) (Nat.pow_lt_pow_right (by decide) (by omega))
end
theorem SF.drawn {d : Int} (h : d ∈ [2, 3, -1, 5, -3, 6, -2, 21, -35, 101, 9973]) : SF d.natAbs ∧ d.natAbs ≤ 9973 := by
  refine ⟨SF.small (B := 100) ?_ ?_ ?_, ?_⟩
  all_goals (revert d; decide)
theorem Rq.drawn {d : Int} (h : d ∈ [2, 3, -1, 5, -3, 6, -2, 21, -35, 101, 9973]) : Rq d := by
  have r := Rt.drawn h
  obtain ⟨sf, le⟩ := SF.drawn h
  exact ⟨r, Nsq.of r.ne1 r.ne0 sf, Nat.le_trans le (by decide)⟩
theorem Rq.dOf {d : Int} (h : d ∈ [1, 1, 1, 2, 3, -1, 5, -3, 6, -2, 1, 1, 21, -35, 101, 9973]) : Rq (dOf d) := Rq.drawn (by revert d; decide)

section
variable {d : Int} (q : D → Prop) (x : XD)
theorem short_sx (r : Rq d) (d14 : d.natAbs ≤ 2 ^ 14) {e : El d} (h1 : (cn e).1.natAbs < 10 ^ 9 ∧ (cn e).2.1.natAbs < 10 ^ 9 ∧ (cn e).2.2.natAbs < 10 ^ 9) : Sx e 50 := by
  refine Sx.of_canon (cn_ok e) (by omega) ?_
  have := Nat.mul_le_mul (Nat.le_of_lt h1.2.1) d14
  omega
end
/-! ### numbers drawn, of any size -/
section
variable (q : D → Prop) (x : XD)
theorem sz_frac2 {d : Int} (P Q s : Int) (h1 : 1 ≤ s) : Sz (⟨(P : Rat) / s, (Q : Rat) / s⟩ : El d) s.natAbs (P.natAbs + Q.natAbs * d.natAbs) := by
  have sr := rcast_ne (i := s) (by omega)
  have e : ((s.natAbs : Nat) : Int) = s := by omega
  refine ⟨by omega, P, Q, ?_, ?_, Nat.le_refl _⟩
  · rw [e]; show (P : Rat) = (P : Rat) / s * s; grind
  · rw [e]; show (Q : Rat) = (Q : Rat) / s * s; grind
theorem drawn_fin2 (dd P Q s : Int) {n : Nat} (hd : dd ∈ [1, 1, 1, 2, 3, -1, 5, -3, 6, -2, 1, 1, 21, -35, 101, 9973]) (h1 : 1 ≤ s) (hs : s.natAbs ≤ 2 ^ n) (hp : P.natAbs ≤ 2 ^ n) (hq : Q.natAbs ≤ 2 ^ n) (hn : n < 4000) (h : ∀ e : El (dOf dd), Sx e (n + 15) → q (nd e)) : fn__law_made [.int P, .int Q, .int s, .int dd] q x := by
  have sr := rcast_ne (i := s) (by omega)
  have sb : s.natAbs < 2 ^ 9000 := Nat.lt_of_le_of_lt hs (Nat.pow_lt_pow_right (by decide) (by omega))
  have hb := (Rt.dOf hd).2
  have e15 : 2 ^ (n + 15) = 2 ^ n * 32768 := Nat.pow_add ..
  by_cases h1' : dd = 1
  · subst h1'
    refine made_one _ _ _ _ _ (made_of (d := dOf 1) (e := ⟨((P + Q : Int) : Rat) / s, ((0 : Int) : Rat) / s⟩) _ _ (by omega) ?_ ?_ sb (fun z => absurd rfl z) (fun _ => rfl) (h _ ((sz_frac2 _ _ _ h1).sx (by omega) (by rw [e15]; simp; omega))))
    · show ((P + Q : Int) : Rat) = ((P + Q : Int) : Rat) / s * s
      grind
    · show ((0 : Int) : Rat) = ((0 : Int) : Rat) / s * s
      grind
  · have e : dOf dd = dd := by unfold dOf; rw [if_neg h1']
    rw [e] at h hb
    have := Nat.mul_le_mul hq hb
    refine made_of (d := dd) (e := ⟨(P : Rat) / s, (Q : Rat) / s⟩) _ _ (by omega) ?_ ?_ sb (fun _ => rfl) (fun z => absurd z h1') (h _ ((sz_frac2 _ _ _ h1).sx (by omega) (by rw [e15]; omega)))
    · show (P : Rat) = (P : Rat) / s * s
      grind
    · show (Q : Rat) = (Q : Rat) / s * s
      grind
end

section
variable {d : Int} (q : D → Prop) (x : XD)
theorem fSeq_split {f f' : FS} {ρ : Ro} {d : DEnds} (h : ∀ R : FS, R = f' → f ρ { d with nx := fun ρ' => R ρ' d }) : fSeq f f' ρ d := h f' rfl
theorem const_pg {a : El d} {S B : Nat} (h : Sz a S B) : Pg (cut [a]) 1 S B := Pg.cut (.cons h (.nil h.pos)) (cut_len _)
theorem const_po (a : El d) : po (cut [a]) = Po.C a := po_cut [a]
theorem rp_str {s : Str} (h : (D.str s).okR = true) (hl : s.length ≤ 100) : Rp (.str s) 1100 := ⟨h, rfl, Nat.zero_le _, by show 10 * s.length + 2 ≤ 1100; omega⟩
theorem Rp.tup3 {a b c : D} {n k j : Nat} (h : Rp a n) (h' : Rp b k) (h'' : Rp c j) (h1 : a.dep ≤ 9) (h2 : b.dep ≤ 9) (h3 : c.dep ≤ 9) : Rp (.tup [a, b, c]) (n + k + j + 9) := by
  refine ⟨?_, ?_, ?_, ?_⟩
  · show (a.okR && (b.okR && (c.okR && true))) = true; rw [h.ok, h'.ok, h''.ok]; rfl
  · show (a.shows && (b.shows && (c.shows && true))) = true; rw [h.sh, h'.sh, h''.sh]; rfl
  · show max a.dep (max b.dep (max c.dep 0)) + 1 ≤ 10; omega
  · show (a.cost + 2 + (b.cost + 2 + (c.cost + 2 + 0))) + 3 ≤ _; have := h.ct; have := h'.ct; have := h''.ct; omega
theorem rp_bl (b : Bool) : Rp (.bl b) 8 := ⟨rfl, rfl, Nat.zero_le _, Nat.le_refl _⟩
theorem const_rp (r : Rt d) (hd : d.natAbs < 2 ^ 1900) {a : El d} {n : Nat} (ha : Sx a n) (hn : n < 1900) : Rp (pd (cut [a])) 10000 := by
  obtain ⟨S, B, h1, h2, h3⟩ := ha.ex
  exact (Rp.pol r (const_pg h1) (p1900 h2 hn) (p1900 h3 hn) hd).mono (by decide)
theorem pick_nd (l : List (El d)) (h0 : l ≠ []) (hl : l.length ≤ 1000) (h : ∀ e ∈ l, q (nd e)) : fn__law_pick [.lst (l.map nd)] q x := by
  refine pick_go _ _ _ (by simpa using h0) (by rw [List.length_map]; omega) fun a ha => ?_
  obtain ⟨e, he, rfl⟩ := List.mem_map.mp ha
  exact h e he
theorem nd_notNon (e : El d) : (nd e).isNon = false := rfl
end

section
variable {d : Int} (q : D → Prop) (x : XD)
theorem ev_cut (e : El d) (l : List (El d)) : ev e (cut l) = ev e l := at_peq (RHid _) e _ _ (co_cut l)
/-! ### sums and products of lists -/
def sm : List (El d) → El d
  | [] => 0
  | a :: l => a + sm l
def pr : List (El d) → El d
  | [] => 1
  | a :: l => a * pr l
theorem sm_snoc (a : El d) : ∀ l : List (El d), sm (l ++ [a]) = sm l + a
  | [] => by show a + 0 = 0 + a; grind
  | b :: l => by show b + sm (l ++ [a]) = b + sm l + a; rw [sm_snoc a l]; grind
theorem pr_snoc (a : El d) : ∀ l : List (El d), pr (l ++ [a]) = pr l * a
  | [] => by show a * 1 = 1 * a; grind
  | b :: l => by show b * pr (l ++ [a]) = b * pr l * a; rw [pr_snoc a l]; grind
theorem sm_sx : ∀ l : List (El d), (∀ e ∈ l, Sx e 50) → Sx (sm l) (51 * l.length)
  | [], _ => Sx.zero
  | a :: l, h => ((h a (List.mem_cons_self ..)).add (sm_sx l fun e he => h e (List.mem_cons_of_mem _ he))).mono (by rw [List.length_cons]; omega)
theorem pr_sx : ∀ l : List (El d), (∀ e ∈ l, Sx e 50) → Sx (pr l) (51 * l.length)
  | [], _ => Sx.one
  | a :: l, h => ((h a (List.mem_cons_self ..)).mul (pr_sx l fun e he => h e (List.mem_cons_of_mem _ he))).mono (by rw [List.length_cons]; omega)
theorem lc_sub {t : FG} {tt : FT} {fe : FE} {vs : List Nat} {ρ : Ro} {q : D → Prop} {x : XD} : ∀ (l acc : List (El d)),
    (∀ a ∈ l, ∀ nx : Bool → Ro → Prop, (∀ ρ1 b, (∀ q' : D → Prop, q' (nd a) → fe ρ1 q' x) → nx b ρ1) → t (nd a) (wipeD ρ vs) fun ρ1 => tt ρ1 (fun b => nx b ρ1) x) → acc.length + l.length ≤ LN →
    (∀ r : List (El d), (∀ e ∈ r, e ∈ l) → r.length ≤ l.length → q (.lst ((acc ++ r).map nd))) → lcL t tt fe vs ρ q x (l.map nd) (acc.map nd)
  | [], acc, _, _, h => by have := h [] (fun _ h => h) (Nat.le_refl _); rwa [List.append_nil] at this
  | a :: l, acc, hs, hl, h => by
    rw [List.length_cons] at hl
    refine hs a (List.mem_cons_self ..) (fun b ρ1 => if b = true then fe ρ1 (fun d => (acc.map nd).length < LN ∧ lcL t tt fe vs ρ q x (l.map nd) (acc.map nd ++ [d])) x else lcL t tt fe vs ρ q x (l.map nd) (acc.map nd)) fun ρ1 b h1 => ?_
    cases b with
    | true =>
      rw [if_pos rfl]
      refine h1 _ ⟨by rw [List.length_map]; omega, ?_⟩
      have := lc_sub (t := t) (tt := tt) (fe := fe) (vs := vs) (ρ := ρ) (q := q) (x := x) l (acc ++ [a]) (fun b hb => hs b (List.mem_cons_of_mem _ hb)) (by rw [List.length_append, List.length_singleton]; omega) fun r h2 h3 => by
        have := h (a :: r) (fun e he => by
          rcases List.mem_cons.mp he with z | z
          · rw [z]; exact List.mem_cons_self ..
          · exact List.mem_cons_of_mem _ (h2 e z)) (by rw [List.length_cons, List.length_cons]; omega)
        rwa [List.append_assoc]
      rwa [List.map_append] at this
    | false =>
      rw [if_neg Bool.false_ne_true]
      exact lc_sub l acc (fun b hb => hs b (List.mem_cons_of_mem _ hb)) (by omega) fun r h2 h3 => h r (fun e he => List.mem_cons_of_mem _ (h2 e he)) (by rw [List.length_cons]; omega)
theorem cut_nds (r : List (El d)) (lo hi : Option Int) : ∃ s : List (El d), DL.cutD (r.map nd) lo hi = s.map nd ∧ (∀ e ∈ s, e ∈ r) ∧ s.length ≤ r.length := by
  unfold DL.cutD
  rw [← List.map_drop, ← List.map_take]
  refine ⟨_, rfl, fun e he => List.mem_of_mem_drop (List.mem_of_mem_take he), ?_⟩
  rw [List.length_take, List.length_drop]
  omega
end

section
variable {d : Int} (q : D → Prop) (x : XD)
theorem is_number_go (r : Rt d) (e : El d) (h : q (.bl true)) : fn_is_number [nd e] q x := by
  rw [fn_is_number_eq]; unfold g_is_number
  refine ⟨rfl, ?_⟩
  dsimp only [fSeq, fIfS, fRet, fRetN, fDrop, fAsg, fName, fGseq, fGtup, fGcons, fGnil, fVar, fK, f1, f2, fNil, fCons, fTup, fLst, fCall, fCall0, fCallG, fCallK, fCallK0, fRaise, fTry, tryX, fTest, gNot, gAnd, gOr, hAnd, hOr, hNot, fIf, fPar2, fPar3, fSkip, fNever, fBrk, fCnt, fIt, fItT, fItL, fFor, forL, startD, entry, pick, D.isNon,
  DL.lt', DL.le', DL.gt', DL.ge', fSl, fPart, fNo, List.map_cons, List.map_nil, List.length_cons, List.length_nil, List.append_nil, List.nil_append, List.cons_append, List.getElem?_cons_zero, List.getElem?_cons_succ, List.set_cons_zero, List.set_cons_succ, List.replicate_succ, List.replicate_zero, List.filterMap_cons, List.filterMap_nil, Nat.zero_add, Nat.reduceAdd, if_true, if_false, Bool.false_eq_true]
  exact number_value _ _ r e h
theorem rp_lst2 {a b : D} {n k : Nat} (h : Rp a n) (h' : Rp b k) (h1 : a.dep ≤ 9) (h2 : b.dep ≤ 9) : Rp (.lst [a, b]) (n + k + 7) := by
  refine ⟨?_, ?_, ?_, ?_⟩
  · show (a.okR && (b.okR && true)) = true; rw [h.ok, h'.ok]; rfl
  · show (a.shows && (b.shows && true)) = true; rw [h.sh, h'.sh]; rfl
  · show max a.dep (max b.dep 0) + 1 ≤ 10; omega
  · show (a.cost + 2 + (b.cost + 2 + 0)) + 3 ≤ _; have := h.ct; have := h'.ct; omega
theorem repL {xs : List D} {n : Nat} (h : Rp (.lst xs) n) (hn : n ≤ 1000000) : sRepr (.lst xs) q x = q (.str (D.lst xs).py.shown) := propext ⟨fun h => h.2.2.2.2, fun hq => ⟨h.ok, h.sh, by have := h.dp; omega, Nat.le_trans h.ct hn, hq⟩⟩
theorem nd_one : nd (1 : El d) = .tup [.int 1, .int 0, .int 1, .int 1] := nd_int (d := d) 1
end
abbrev lst3 (a d : Addr) (dd : Int) (l : D) (s4 s5 s6 s7 s8 s9 s10 s11 s12 s13 : Option D) : Ro := [some (.ref a), some (.ref d), some (.int dd), some l, s4, s5, s6, s7, s8, s9, s10, s11, s12, s13]
section
variable (q : D → Prop) (x : XD)
/-! ### values of all kinds -/
theorem rangeD_nat (k : Nat) : rangeD 0 k = (List.range k).map fun i => D.int (i : Nat) := by
  unfold rangeD
  congr 1
  funext i
  rw [Int.zero_add]
structure Vk (k n : Nat) (a : D) : Prop where
  ok : a.okR = true
  sh : a.shows = true
  dp : a.dep ≤ k
  ct : a.cost ≤ n
  i0 : ∀ i, a = .int i → i.natAbs ≤ 10 ^ 40
  i1 : ∀ xs, a = .tup xs → ∀ i, D.int i ∈ xs → i.natAbs ≤ 10 ^ 40
theorem Vk.mono {k n k' n' : Nat} {a : D} (h : Vk k n a) (hk : k ≤ k') (hn : n ≤ n') : Vk k' n' a := ⟨h.ok, h.sh, Nat.le_trans h.dp hk, Nat.le_trans h.ct hn, h.i0, h.i1⟩
theorem Vk.int {i : Int} (h : i.natAbs ≤ 10 ^ 40) : Vk 0 2000 (.int i) := by
  refine ⟨rfl, ?_, Nat.le_refl _, Nat.le_refl _, fun j e => by cases e; exact h, fun xs e => by cases e⟩
  show decide (i.natAbs.log2 < 1920) = true
  refine decide_eq_true ?_
  by_cases z : i.natAbs = 0
  · rw [z]; decide
  · exact (Nat.log2_lt z).mpr (Nat.lt_of_le_of_lt h (by decide))
theorem Vk.str {s : Str} (h : (D.str s).okR = true) (hl : s.length ≤ 100) : Vk 0 1002 (.str s) := ⟨h, rfl, Nat.le_refl _, (by show 10 * s.length + 2 ≤ 1002; omega), fun j e => (by cases e), fun xs e => (by cases e)⟩
theorem Vk.bl (b : Bool) : Vk 0 8 (.bl b) := ⟨rfl, rfl, Nat.le_refl _, Nat.le_refl _, fun j e => (by cases e), fun xs e => (by cases e)⟩
theorem Vk.non : Vk 0 8 .non := ⟨rfl, rfl, Nat.le_refl _, Nat.le_refl _, fun j e => (by cases e), fun xs e => (by cases e)⟩
/-- several -/
theorem vks {k n : Nat} : ∀ {l : List D}, (∀ a ∈ l, Vk k n a) → D.oksR l = true ∧ D.showss l = true ∧ D.deps l ≤ k ∧ D.costs l ≤ l.length * (n + 2)
  | [], _ => ⟨rfl, rfl, Nat.zero_le _, Nat.zero_le _⟩
  | a :: l, h => by
    obtain ⟨h1, h2, h3, h4⟩ := vks fun b hb => h b (List.mem_cons_of_mem _ hb)
    have ha := h a (List.mem_cons_self ..)
    refine ⟨?_, ?_, ?_, ?_⟩
    · show (a.okR && D.oksR l) = true; rw [ha.ok, h1]; rfl
    · show (a.shows && D.showss l) = true; rw [ha.sh, h2]; rfl
    · show max a.dep (D.deps l) ≤ k; have := ha.dp; omega
    · show a.cost + 2 + D.costs l ≤ (l.length + 1) * (n + 2); have := ha.ct; rw [Nat.succ_mul]; omega
theorem Vk.lst {k n m : Nat} {l : List D} (h : ∀ a ∈ l, Vk k n a) (hl : l.length ≤ m) : Vk (k + 1) (m * (n + 2) + 3) (.lst l) := by
  obtain ⟨h1, h2, h3, h4⟩ := vks h
  exact ⟨h1, h2, Nat.add_le_add_right h3 1, Nat.add_le_add_right (Nat.le_trans h4 (Nat.mul_le_mul_right _ hl)) 3, fun j e => (by cases e), fun xs e => (by cases e)⟩
theorem Vk.tup {k n m : Nat} {l : List D} (h : ∀ a ∈ l, Vk k n a) (hl : l.length ≤ m) : Vk (k + 1) (m * (n + 2) + 3) (.tup l) := by
  obtain ⟨h1, h2, h3, h4⟩ := vks h
  exact ⟨h1, h2, Nat.add_le_add_right h3 1, Nat.add_le_add_right (Nat.le_trans h4 (Nat.mul_le_mul_right _ hl)) 3, fun j e => (by cases e), fun xs e i hi => (by cases e; exact (h _ hi).i0 i rfl)⟩
theorem any_step (rc : Fn) (j : Int) (k n : Nat) (hn : 2002 ≤ n) (hrc : 0 < j → ∀ (q : D → Prop) (x : XD), (∀ a, Vk k n a → q a) → rc [.int (j - 1)] q x) (h : ∀ a, Vk (k + 2) (4 * n + 5000) a → q a) (d : Addr) : g__law_any rc d (startD 5 [.ref d, .int j]) (entry false q x) := by
  unfold g__law_any
  obtain ⟨E, hE⟩ : ∃ E, E = entry false q x := ⟨_, rfl⟩
  have e1 : E.rt = q := by rw [hE]
  have e2 : E.x = x := by rw [hE]
  rw [← hE]
  clear hE
  refine fSeq_split fun R hR => ?_
  simp only [fSeq, fIfS, fRet, fRetN, fDrop, fAsg, fName, fGseq, fGtup, fGcons, fGnil, fVar, fK, f1, f2, fNil, fCons, fTup, fLst, fCall, fCall0, fCallG, fCallK, fCallK0, fRaise, fTry, tryX, fTest, gNot, gAnd, gOr, hAnd, hOr, hNot, fIf, fPar2, fPar3, fSkip, fNever, fBrk, fCnt, fIt, fItT, fItL, fFor, forL, startD, entry, pick, D.isNon,
  DL.lt', DL.le', DL.gt', DL.ge', fSl, fPart, fNo, List.map_cons, List.map_nil, List.length_cons, List.length_nil, List.append_nil, List.nil_append, List.cons_append, List.getElem?_cons_zero, List.getElem?_cons_succ, List.set_cons_zero, List.set_cons_succ, List.replicate_succ, List.replicate_zero, List.filterMap_cons, List.filterMap_nil, Nat.zero_add, Nat.reduceAdd, if_true, if_false, Bool.false_eq_true, Nat.sub_self, Nat.reduceSub, List.replicate_zero, List.map_cons, List.map_nil, List.cons_append, List.nil_append, List.append_nil, List.getElem?_cons_zero, List.getElem?_cons_succ, List.set_cons_zero, List.set_cons_succ, List.length_cons, List.length_nil, Nat.zero_add, Nat.reduceAdd, Nat.reduceLT, Nat.reduceLeDiff, true_and, and_true, LN, eq_self, e1, e2]
  refine draw_go _ _ _ (by decide) (by decide) fun w w0 w1 => ?_
  rw [hR]; clear hR R
  refine fSeq_split fun R hR => ?_
  simp only [fSeq, fIfS, fRet, fRetN, fDrop, fAsg, fName, fGseq, fGtup, fGcons, fGnil, fVar, fK, f1, f2, fNil, fCons, fTup, fLst, fCall, fCall0, fCallG, fCallK, fCallK0, fRaise, fTry, tryX, fTest, gNot, gAnd, gOr, hAnd, hOr, hNot, fIf, fPar2, fPar3, fSkip, fNever, fBrk, fCnt, fIt, fItT, fItL, fFor, forL, startD, entry, pick, D.isNon,
  DL.lt', DL.le', DL.gt', DL.ge', fSl, fPart, fNo, List.map_cons, List.map_nil, List.length_cons, List.length_nil, List.append_nil, List.nil_append, List.cons_append, List.getElem?_cons_zero, List.getElem?_cons_succ, List.set_cons_zero, List.set_cons_succ, List.replicate_succ, List.replicate_zero, List.filterMap_cons, List.filterMap_nil, Nat.zero_add, Nat.reduceAdd, if_true, if_false, Bool.false_eq_true, Nat.sub_self, Nat.reduceSub, List.replicate_zero, List.map_cons, List.map_nil, List.cons_append, List.nil_append, List.append_nil, List.getElem?_cons_zero, List.getElem?_cons_succ, List.set_cons_zero, List.set_cons_succ, List.length_cons, List.length_nil, Nat.zero_add, Nat.reduceAdd, Nat.reduceLT, Nat.reduceLeDiff, true_and, and_true, LN, eq_self, e1, e2, ev_cmp, DL.lt', decide_eq_true_eq]
  have c38 : CPow 10 38 := ⟨by decide, by decide, by decide⟩
  have c20 : CPow 10 20 := ⟨by decide, by decide, by decide⟩
  split
  · simp only [ev_neg, ev_pow, ev_mul, c38, c20, true_and]
    refine ⟨mulOk_l (by decide) (by decide), pick_go _ _ _ (by simp) (by decide) fun b hb => ?_⟩
    have : ∃ i : Int, b = .int i ∧ i.natAbs ≤ 10 ^ 40 := by
      simp at hb
      rcases hb with e | e | e | e | e | e | e | e <;> exact ⟨_, e, by decide⟩
    obtain ⟨i, rfl, hi⟩ := this
    exact h _ ((Vk.int hi).mono (by omega) (by omega))
  rw [hR]; clear hR R
  refine fSeq_split fun R hR => ?_
  simp only [fSeq, fIfS, fRet, fRetN, fDrop, fAsg, fName, fGseq, fGtup, fGcons, fGnil, fVar, fK, f1, f2, fNil, fCons, fTup, fLst, fCall, fCall0, fCallG, fCallK, fCallK0, fRaise, fTry, tryX, fTest, gNot, gAnd, gOr, hAnd, hOr, hNot, fIf, fPar2, fPar3, fSkip, fNever, fBrk, fCnt, fIt, fItT, fItL, fFor, forL, startD, entry, pick, D.isNon,
  DL.lt', DL.le', DL.gt', DL.ge', fSl, fPart, fNo, List.map_cons, List.map_nil, List.length_cons, List.length_nil, List.append_nil, List.nil_append, List.cons_append, List.getElem?_cons_zero, List.getElem?_cons_succ, List.set_cons_zero, List.set_cons_succ, List.replicate_succ, List.replicate_zero, List.filterMap_cons, List.filterMap_nil, Nat.zero_add, Nat.reduceAdd, if_true, if_false, Bool.false_eq_true, Nat.sub_self, Nat.reduceSub, List.replicate_zero, List.map_cons, List.map_nil, List.cons_append, List.nil_append, List.append_nil, List.getElem?_cons_zero, List.getElem?_cons_succ, List.set_cons_zero, List.set_cons_succ, List.length_cons, List.length_nil, Nat.zero_add, Nat.reduceAdd, Nat.reduceLT, Nat.reduceLeDiff, true_and, and_true, LN, eq_self, e1, e2, ev_cmp, DL.lt', decide_eq_true_eq]
  split
  · refine pick_go _ _ _ (by simp) (by decide) fun b hb => ?_
    have : ∃ s : Str, b = .str s ∧ (D.str s).okR = true ∧ s.length ≤ 100 := by
      simp at hb
      rcases hb with e | e | e | e | e | e <;> exact ⟨_, e, by decide +kernel, by decide +kernel⟩
    obtain ⟨s, rfl, h1, h2⟩ := this
    exact h _ ((Vk.str h1 h2).mono (by omega) (by omega))
  rw [hR]; clear hR R
  refine fSeq_split fun R hR => ?_
  simp only [fSeq, fIfS, fRet, fRetN, fDrop, fAsg, fName, fGseq, fGtup, fGcons, fGnil, fVar, fK, f1, f2, fNil, fCons, fTup, fLst, fCall, fCall0, fCallG, fCallK, fCallK0, fRaise, fTry, tryX, fTest, gNot, gAnd, gOr, hAnd, hOr, hNot, fIf, fPar2, fPar3, fSkip, fNever, fBrk, fCnt, fIt, fItT, fItL, fFor, forL, startD, entry, pick, D.isNon,
  DL.lt', DL.le', DL.gt', DL.ge', fSl, fPart, fNo, List.map_cons, List.map_nil, List.length_cons, List.length_nil, List.append_nil, List.nil_append, List.cons_append, List.getElem?_cons_zero, List.getElem?_cons_succ, List.set_cons_zero, List.set_cons_succ, List.replicate_succ, List.replicate_zero, List.filterMap_cons, List.filterMap_nil, Nat.zero_add, Nat.reduceAdd, if_true, if_false, Bool.false_eq_true, Nat.sub_self, Nat.reduceSub, List.replicate_zero, List.map_cons, List.map_nil, List.cons_append, List.nil_append, List.append_nil, List.getElem?_cons_zero, List.getElem?_cons_succ, List.set_cons_zero, List.set_cons_succ, List.length_cons, List.length_nil, Nat.zero_add, Nat.reduceAdd, Nat.reduceLT, Nat.reduceLeDiff, true_and, and_true, LN, eq_self, e1, e2, ev_eq_int, Bool.false_xor, decide_eq_true_eq]
  split
  · refine pick_go _ _ _ (by simp) (by decide) fun b hb => ?_
    simp at hb
    rcases hb with e | e | e
    · exact h _ (e ▸ (Vk.bl true).mono (by omega) (by omega))
    · exact h _ (e ▸ (Vk.bl false).mono (by omega) (by omega))
    · exact h _ (e ▸ Vk.non.mono (by omega) (by omega))
  rw [hR]; clear hR R
  refine fSeq_split fun R hR => ?_
  simp only [fLc, fRg1, fSeq, fIfS, fRet, fRetN, fDrop, fAsg, fName, fGseq, fGtup, fGcons, fGnil, fVar, fK, f1, f2, fNil, fCons, fTup, fLst, fCall, fCall0, fCallG, fCallK, fCallK0, fRaise, fTry, tryX, fTest, gNot, gAnd, gOr, hAnd, hOr, hNot, fIf, fPar2, fPar3, fSkip, fNever, fBrk, fCnt, fIt, fItT, fItL, fFor, forL, startD, entry, pick, D.isNon,
  DL.lt', DL.le', DL.gt', DL.ge', fSl, fPart, fNo, List.map_cons, List.map_nil, List.length_cons, List.length_nil, List.append_nil, List.nil_append, List.cons_append, List.getElem?_cons_zero, List.getElem?_cons_succ, List.set_cons_zero, List.set_cons_succ, List.replicate_succ, List.replicate_zero, List.filterMap_cons, List.filterMap_nil, Nat.zero_add, Nat.reduceAdd, if_true, if_false, Bool.false_eq_true, Nat.sub_self, Nat.reduceSub, List.replicate_zero, List.map_cons, List.map_nil, List.cons_append, List.nil_append, List.append_nil, List.getElem?_cons_zero, List.getElem?_cons_succ, List.set_cons_zero, List.set_cons_succ, List.length_cons, List.length_nil, Nat.zero_add, Nat.reduceAdd, Nat.reduceLT, Nat.reduceLeDiff, true_and, and_true, LN, eq_self, e1, e2, ev_cmp, DL.gt', decide_eq_true_eq]
  have K : ∀ l : List D, l.length ≤ 3 → (∀ a ∈ l, Vk k n a) → R [some (.ref d), some (.int j), some (.int w), some (.lst l), none] E := fun l hl hv => by
    rw [hR]; clear hR R
    refine fSeq_split fun R hR => ?_
    simp only [fSeq, fIfS, fRet, fRetN, fDrop, fAsg, fName, fGseq, fGtup, fGcons, fGnil, fVar, fK, f1, f2, fNil, fCons, fTup, fLst, fCall, fCall0, fCallG, fCallK, fCallK0, fRaise, fTry, tryX, fTest, gNot, gAnd, gOr, hAnd, hOr, hNot, fIf, fPar2, fPar3, fSkip, fNever, fBrk, fCnt, fIt, fItT, fItL, fFor, forL, startD, entry, pick, D.isNon,
  DL.lt', DL.le', DL.gt', DL.ge', fSl, fPart, fNo, List.map_cons, List.map_nil, List.length_cons, List.length_nil, List.append_nil, List.nil_append, List.cons_append, List.getElem?_cons_zero, List.getElem?_cons_succ, List.set_cons_zero, List.set_cons_succ, List.replicate_succ, List.replicate_zero, List.filterMap_cons, List.filterMap_nil, Nat.zero_add, Nat.reduceAdd, if_true, if_false, Bool.false_eq_true, Nat.sub_self, Nat.reduceSub, List.replicate_zero, List.map_cons, List.map_nil, List.cons_append, List.nil_append, List.append_nil, List.getElem?_cons_zero, List.getElem?_cons_succ, List.set_cons_zero, List.set_cons_succ, List.length_cons, List.length_nil, Nat.zero_add, Nat.reduceAdd, Nat.reduceLT, Nat.reduceLeDiff, true_and, and_true, LN, eq_self, e1, e2, ev_eq_int, Bool.false_xor, decide_eq_true_eq]
    split
    · exact h _ ((Vk.lst hv hl).mono (by omega) (by omega))
    rw [hR]; clear hR R
    simp only [fDic, fSeq, fIfS, fRet, fRetN, fDrop, fAsg, fName, fGseq, fGtup, fGcons, fGnil, fVar, fK, f1, f2, fNil, fCons, fTup, fLst, fCall, fCall0, fCallG, fCallK, fCallK0, fRaise, fTry, tryX, fTest, gNot, gAnd, gOr, hAnd, hOr, hNot, fIf, fPar2, fPar3, fSkip, fNever, fBrk, fCnt, fIt, fItT, fItL, fFor, forL, startD, entry, pick, D.isNon,
  DL.lt', DL.le', DL.gt', DL.ge', fSl, fPart, fNo, List.map_cons, List.map_nil, List.length_cons, List.length_nil, List.append_nil, List.nil_append, List.cons_append, List.getElem?_cons_zero, List.getElem?_cons_succ, List.set_cons_zero, List.set_cons_succ, List.replicate_succ, List.replicate_zero, List.filterMap_cons, List.filterMap_nil, Nat.zero_add, Nat.reduceAdd, if_true, if_false, Bool.false_eq_true, Nat.sub_self, Nat.reduceSub, List.replicate_zero, List.map_cons, List.map_nil, List.cons_append, List.nil_append, List.append_nil, List.getElem?_cons_zero, List.getElem?_cons_succ, List.set_cons_zero, List.set_cons_succ, List.length_cons, List.length_nil, Nat.zero_add, Nat.reduceAdd, Nat.reduceLT, Nat.reduceLeDiff, true_and, and_true, LN, eq_self, e1, e2, ev_eq_int, Bool.false_xor, decide_eq_true_eq]
    split
    · rw [ev_len_lst]
      have v1 := Vk.lst hv hl
      have v2 : Vk 0 2000 (.int l.length) := Vk.int (by show (l.length : Int).natAbs ≤ _; rw [Int.natAbs_natCast]; exact Nat.le_trans hl (by decide))
      refine h _ ⟨?_, ?_, ?_, ?_, fun i e => (by cases e), fun xs e => (by cases e)⟩
      · show ([Sum.inr (Str.ofString "key"), Sum.inl 1].all keyOk && (decide (2 = 2) && ((D.lst l).okR && (true && true)))) = true
        rw [v1.ok, show [Sum.inr (Str.ofString "key"), Sum.inl 1].all keyOk = true by decide +kernel]
        rfl
      · show ((D.lst l).shows && ((D.int l.length).shows && true)) = true
        rw [v1.sh, v2.sh]; rfl
      · show max (D.lst l).dep (max 0 0) + 1 ≤ k + 2
        have := v1.dp
        omega
      · show ([Sum.inr (Str.ofString "key"), Sum.inl 1].map keyCost).sum + ((D.lst l).cost + 2 + (2000 + 2 + 0)) + 3 ≤ _
        have := v1.ct
        have : ([Sum.inr (Str.ofString "key"), Sum.inl 1].map keyCost).sum = 2036 := by decide +kernel
        omega
    · rw [ev_tuple_lst]
      exact h _ ((Vk.tup hv hl).mono (by omega) (by omega))
  split
  · refine draw_go _ _ _ (by decide) (by decide) fun y y0 y1 => ?_
    refine ⟨by omega, by omega, ?_⟩
    rw [rangeD_nat]
    refine lc_all (β := D) (fun i : Nat => D.int (i : Nat)) id (fun a => Vk k n a) _ [] (fun i _ q' hq => ?_) (LNle (by rw [List.length_nil, List.length_range]; omega)) (fun b hb => by cases hb) fun l l1 hl => ?_
    · refine ⟨show (4 : Nat) < 5 by decide, ?_⟩
      simp only [wipeD, fSeq, fIfS, fRet, fRetN, fDrop, fAsg, fName, fGseq, fGtup, fGcons, fGnil, fVar, fK, f1, f2, fNil, fCons, fTup, fLst, fCall, fCall0, fCallG, fCallK, fCallK0, fRaise, fTry, tryX, fTest, gNot, gAnd, gOr, hAnd, hOr, hNot, fIf, fPar2, fPar3, fSkip, fNever, fBrk, fCnt, fIt, fItT, fItL, fFor, forL, startD, entry, pick, D.isNon,
  DL.lt', DL.le', DL.gt', DL.ge', fSl, fPart, fNo, List.map_cons, List.map_nil, List.length_cons, List.length_nil, List.append_nil, List.nil_append, List.cons_append, List.getElem?_cons_zero, List.getElem?_cons_succ, List.set_cons_zero, List.set_cons_succ, List.replicate_succ, List.replicate_zero, List.filterMap_cons, List.filterMap_nil, Nat.zero_add, Nat.reduceAdd, if_true, if_false, Bool.false_eq_true, Nat.sub_self, Nat.reduceSub, List.replicate_zero, List.map_cons, List.map_nil, List.cons_append, List.nil_append, List.append_nil, List.getElem?_cons_zero, List.getElem?_cons_succ, List.set_cons_zero, List.set_cons_succ, List.length_cons, List.length_nil, Nat.zero_add, Nat.reduceAdd, Nat.reduceLT, Nat.reduceLeDiff, true_and, and_true, LN, eq_self, ev_sub]
      exact hrc (by assumption) _ _ hq
    · rw [List.map_id]
      exact K l (by rw [l1, List.length_nil, List.length_range]; omega) hl
  · exact K [] (Nat.zero_le _) (fun a ha => by cases ha)
theorem any_go (q : D → Prop) (x : XD) (h : ∀ a, Vk 6 300000 a → q a) : fn__law_any [.int 2] q x := by
  show fn__law_any_3 _ _ _
  rw [fn__law_any_3_eq]
  refine ⟨rfl, fun d => any_step q x _ 2 4 61008 (by decide) (fun _ q x h => ?_) (fun a ha => h a (ha.mono (by decide) (by decide))) d⟩
  rw [fn__law_any_2_eq]
  refine ⟨rfl, fun d => any_step q x _ (2 - 1) 2 14000 (by decide) (fun _ q x h => ?_) (fun a ha => h a (ha.mono (by decide) (by decide))) d⟩
  rw [fn__law_any_1_eq]
  exact ⟨rfl, fun d => any_step q x _ (2 - 1 - 1) 0 2002 (by decide) (fun z => absurd z (by decide)) (fun a ha => h a (ha.mono (by decide) (by decide))) d⟩
end

section
variable (q : D → Prop) (x : XD)
theorem is_integer_int (i : Int) (h : q (.bl true)) : fn__law_is_integer [.int i] q x := by
  rw [fn__law_is_integer_eq]; unfold g__law_is_integer
  refine ⟨rfl, ?_⟩
  dsimp only [fSeq, fIfS, fRet, fRetN, fDrop, fAsg, fName, fGseq, fGtup, fGcons, fGnil, fVar, fK, f1, f2, fNil, fCons, fTup, fLst, fCall, fCall0, fCallG, fCallK, fCallK0, fRaise, fTry, tryX, fTest, gNot, gAnd, gOr, hAnd, hOr, hNot, fIf, fPar2, fPar3, fSkip, fNever, fBrk, fCnt, fIt, fItT, fItL, fFor, forL, startD, entry, pick, D.isNon,
  DL.lt', DL.le', DL.gt', DL.ge', fSl, fPart, fNo, List.map_cons, List.map_nil, List.length_cons, List.length_nil, List.append_nil, List.nil_append, List.cons_append, List.getElem?_cons_zero, List.getElem?_cons_succ, List.set_cons_zero, List.set_cons_succ, List.replicate_succ, List.replicate_zero, List.filterMap_cons, List.filterMap_nil, Nat.zero_add, Nat.reduceAdd, if_true, if_false, Bool.false_eq_true]
  simp only [Nat.sub_self, Nat.reduceSub, List.replicate_zero, List.map_cons, List.map_nil, List.cons_append, List.nil_append, List.append_nil, List.getElem?_cons_zero, List.getElem?_cons_succ, List.set_cons_zero, List.set_cons_succ, List.length_cons, List.length_nil, Nat.zero_add, Nat.reduceAdd, Nat.reduceLT, Nat.reduceLeDiff, ev_add_int, ev_add_lst, ev_add_tup, ev_add_str, ev_cat, ev_cmp, ev_sub, ev_mul, ev_div, ev_mod, ev_pow, ev_max2, ev_min2, ev_gcd, ev_neg, ev_abs, ev_int, ev_intb, ev_len_tup, ev_len_lst, ev_tuple_tup, ev_tuple_lst, ev_list_tup, ev_list_lst, ev_rev, ev_rep, ev_ix0t, ev_ix1t, ev_ix2t, ev_ix0l, ev_ix1l, ev_eq_int, ev_eq_str, ev_isn, ev_is2n, ev_is2b, ev_ty_non, ev_ty_bl, ev_ty_int, ev_ty_str, ev_ty_tup, ev_ty_lst, isTy_int_int, isTy_bool_int, Bool.not_false, if_true]
  exact h
theorem is_integer_tup (l : List D) (h : q (.bl false)) : fn__law_is_integer [.tup l] q x := by
  rw [fn__law_is_integer_eq]; unfold g__law_is_integer
  refine ⟨rfl, ?_⟩
  dsimp only [fSeq, fIfS, fRet, fRetN, fDrop, fAsg, fName, fGseq, fGtup, fGcons, fGnil, fVar, fK, f1, f2, fNil, fCons, fTup, fLst, fCall, fCall0, fCallG, fCallK, fCallK0, fRaise, fTry, tryX, fTest, gNot, gAnd, gOr, hAnd, hOr, hNot, fIf, fPar2, fPar3, fSkip, fNever, fBrk, fCnt, fIt, fItT, fItL, fFor, forL, startD, entry, pick, D.isNon,
  DL.lt', DL.le', DL.gt', DL.ge', fSl, fPart, fNo, List.map_cons, List.map_nil, List.length_cons, List.length_nil, List.append_nil, List.nil_append, List.cons_append, List.getElem?_cons_zero, List.getElem?_cons_succ, List.set_cons_zero, List.set_cons_succ, List.replicate_succ, List.replicate_zero, List.filterMap_cons, List.filterMap_nil, Nat.zero_add, Nat.reduceAdd, if_true, if_false, Bool.false_eq_true]
  simp only [Nat.sub_self, Nat.reduceSub, List.replicate_zero, List.map_cons, List.map_nil, List.cons_append, List.nil_append, List.append_nil, List.getElem?_cons_zero, List.getElem?_cons_succ, List.set_cons_zero, List.set_cons_succ, List.length_cons, List.length_nil, Nat.zero_add, Nat.reduceAdd, Nat.reduceLT, Nat.reduceLeDiff, ev_add_int, ev_add_lst, ev_add_tup, ev_add_str, ev_cat, ev_cmp, ev_sub, ev_mul, ev_div, ev_mod, ev_pow, ev_max2, ev_min2, ev_gcd, ev_neg, ev_abs, ev_int, ev_intb, ev_len_tup, ev_len_lst, ev_tuple_tup, ev_tuple_lst, ev_list_tup, ev_list_lst, ev_rev, ev_rep, ev_ix0t, ev_ix1t, ev_ix2t, ev_ix0l, ev_ix1l, ev_eq_int, ev_eq_str, ev_isn, ev_is2n, ev_is2b, ev_ty_non, ev_ty_bl, ev_ty_int, ev_ty_str, ev_ty_tup, ev_ty_lst, isTy_int_tuple, Bool.false_eq_true, if_false]
  exact h
theorem strOk_of (s : String) : PyData.strOk (Str.ofString s) = true := by
  rw [Str.ofString_eq_toList]
  unfold PyData.strOk
  rw [Array.all_eq_true_iff_forall_mem]
  intro c hc
  simp at hc
  obtain ⟨a, _, rfl⟩ := hc
  refine decide_eq_true ?_
  have := a.valid
  rcases this with h | h
  · exact Nat.lt_trans h (by decide)
  · exact h.2
theorem str_int {i : Int} (hi : i.natAbs ≤ 10 ^ 38) : Vk 0 3000 (.str (toString i : String)) := by
  have hl := PySem.int_text_length_le10 (a := i) (k := 39) (by decide) (Nat.lt_of_le_of_lt hi (by decide))
  have hl2 : (Str.ofString (toString i)).length ≤ 40 := by rw [PySem.ofString_length]; exact hl
  exact ⟨strOk_of _, rfl, Nat.le_refl _, (by show 10 * (Str.ofString (toString i)).length + 2 ≤ 3000; omega), fun j e => (by cases e), fun xs e => (by cases e)⟩
theorem fIfS_split {t : FT} {a b : FS} {ρ : Ro} {d : DEnds} (h : ∀ A B : FS, A = a → B = b → fIfS t A B ρ d) : fIfS t a b ρ d := h a b rfl rfl
theorem bent_int (i : Int) (hi : i.natAbs ≤ 10 ^ 38) (h : ∀ a, Vk 1 3000 a → q a) : fn__law_bent_1 [.int i, .int (1 - 1)] q x := by
  rw [fn__law_bent_1_eq]; unfold g__law_bent
  refine ⟨rfl, fun d => ?_⟩
  obtain ⟨E, hE⟩ : ∃ E, E = entry false q x := ⟨_, rfl⟩
  have e1 : E.rt = q := by rw [hE]
  have e2 : E.x = x := by rw [hE]
  rw [← hE]
  clear hE
  refine fSeq_split fun R hR => fIfS_split fun A B hA hB => ?_
  clear hR
  simp only [fSeq, fIfS, fRet, fRetN, fDrop, fAsg, fName, fGseq, fGtup, fGcons, fGnil, fVar, fK, f1, f2, fNil, fCons, fTup, fLst, fCall, fCall0, fCallG, fCallK, fCallK0, fRaise, fTry, tryX, fTest, gNot, gAnd, gOr, hAnd, hOr, hNot, fIf, fPar2, fPar3, fSkip, fNever, fBrk, fCnt, fIt, fItT, fItL, fFor, forL, startD, entry, pick, D.isNon,
  DL.lt', DL.le', DL.gt', DL.ge', fSl, fPart, fNo, List.map_cons, List.map_nil, List.length_cons, List.length_nil, List.append_nil, List.nil_append, List.cons_append, List.getElem?_cons_zero, List.getElem?_cons_succ, List.set_cons_zero, List.set_cons_succ, List.replicate_succ, List.replicate_zero, List.filterMap_cons, List.filterMap_nil, Nat.zero_add, Nat.reduceAdd, if_true, if_false, Bool.false_eq_true, e1, e2, ev_ty_int, isTy_tuple_int, Bool.not_false]
  rw [hA]; clear hA hB A B
  refine fSeq_split fun R1 hR1 => ?_
  simp only [fSeq, fIfS, fRet, fRetN, fDrop, fAsg, fName, fGseq, fGtup, fGcons, fGnil, fVar, fK, f1, f2, fNil, fCons, fTup, fLst, fCall, fCall0, fCallG, fCallK, fCallK0, fRaise, fTry, tryX, fTest, gNot, gAnd, gOr, hAnd, hOr, hNot, fIf, fPar2, fPar3, fSkip, fNever, fBrk, fCnt, fIt, fItT, fItL, fFor, forL, startD, entry, pick, D.isNon,
  DL.lt', DL.le', DL.gt', DL.ge', fSl, fPart, fNo, List.map_cons, List.map_nil, List.length_cons, List.length_nil, List.append_nil, List.nil_append, List.cons_append, List.getElem?_cons_zero, List.getElem?_cons_succ, List.set_cons_zero, List.set_cons_succ, List.replicate_succ, List.replicate_zero, List.filterMap_cons, List.filterMap_nil, Nat.zero_add, Nat.reduceAdd, if_true, if_false, Bool.false_eq_true, e1, e2]
  refine ⟨trivial, draw_go _ _ _ (by decide) (by decide) fun w w0 w1 => ⟨show (3 : Nat) < 7 by decide, ?_⟩⟩
  rw [hR1]; clear hR1 R1
  refine fSeq_split fun R1 hR1 => ?_
  clear hR1
  simp only [fSeq, fIfS, fRet, fRetN, fDrop, fAsg, fName, fGseq, fGtup, fGcons, fGnil, fVar, fK, f1, f2, fNil, fCons, fTup, fLst, fCall, fCall0, fCallG, fCallK, fCallK0, fRaise, fTry, tryX, fTest, gNot, gAnd, gOr, hAnd, hOr, hNot, fIf, fPar2, fPar3, fSkip, fNever, fBrk, fCnt, fIt, fItT, fItL, fFor, forL, startD, entry, pick, D.isNon,
  DL.lt', DL.le', DL.gt', DL.ge', fSl, fPart, fNo, List.map_cons, List.map_nil, List.length_cons, List.length_nil, List.append_nil, List.nil_append, List.cons_append, List.getElem?_cons_zero, List.getElem?_cons_succ, List.set_cons_zero, List.set_cons_succ, List.replicate_succ, List.replicate_zero, List.filterMap_cons, List.filterMap_nil, Nat.zero_add, Nat.reduceAdd, if_true, if_false, Bool.false_eq_true, e1, e2]
  refine is_integer_int _ _ _ ?_
  have m2 : IntMulOk 2 i := mulOk_l (by decide) (by decide)
  have m4 : IntMulOk 4 i := mulOk_l (by decide) (by decide)
  simp only [if_true, ev_neg, ev_mul, ev_add_int, sBool, sStr, m2, m4, true_and]
  have lg : i.natAbs.log2 < 1920 := of_decide_eq_true (Vk.int (show i.natAbs ≤ 10 ^ 40 from Nat.le_trans hi (by decide))).sh
  refine ⟨lg, LNle (by decide), LNle (by decide), LNle (by decide), pick_go _ _ _ (by simp) (show 10 < 1073741824 by decide) fun b hb => ?_⟩
  have vi : ∀ j : Int, j.natAbs ≤ 10 ^ 40 → q (.int j) := fun j hj => h _ ((Vk.int hj).mono (by omega) (by omega))
  simp at hb
  have p30 : (10 : Nat) ^ 38 * 4 ≤ 10 ^ 40 := by decide
  rcases hb with e | e | e | e | e | e | e | e | e | e
  · rw [e]; exact vi _ (by decide)
  · rw [e]; exact vi _ (by omega)
  · rw [e]; exact vi _ (by omega)
  · rw [e]; exact vi _ (by omega)
  · rw [e]; exact h _ ((Vk.bl _).mono (by omega) (by omega))
  · rw [e]; exact h _ ((str_int (by assumption)).mono (by omega) (by omega))
  · rw [e]; exact h _ ((Vk.tup (m := 1) (fun a ha => by rw [List.mem_singleton.mp ha]; exact Vk.int (by omega)) (Nat.le_refl _)).mono (by omega) (by omega))
  · rw [e]; exact h _ ((Vk.lst (m := 1) (fun a ha => by rw [List.mem_singleton.mp ha]; exact Vk.int (by omega)) (Nat.le_refl _)).mono (by omega) (by omega))
  · rw [e]; exact h _ (Vk.non.mono (by omega) (by omega))
  · rw [e]; exact vi _ (by omega)
theorem eq_tup_nil (n : Bool) (a : D) (l : List D) (ha : (D.tup (a :: l)).ok = true) (hd : (D.tup (a :: l)).dep ≤ 64) : sEq n (.tup (a :: l)) (.tup []) q x = q (.bl (n ^^ false)) := by
  have e : eqD (.tup (a :: l)) (.tup []) = false := rfl
  show (_ ∧ _ ∧ _ ∧ _ ∧ _) = _
  rw [e]
  exact propext ⟨fun h => h.2.2.2.2, fun h => ⟨ha, rfl, hd, by decide, h⟩⟩
theorem eq_lst_nil (n : Bool) (l : List D) (ha : (D.lst l).ok = true) (hd : (D.lst l).dep ≤ 64) : sEq n (.lst l) (.lst []) q x = q (.bl (n ^^ decide (l = []))) := by
  have e : eqD (.lst l) (.lst []) = decide (l = []) := by
    cases l with
    | nil => rfl
    | cons a l => rfl
  show (_ ∧ _ ∧ _ ∧ _ ∧ _) = _
  rw [e]
  exact propext ⟨fun h => h.2.2.2.2, fun h => ⟨ha, rfl, hd, by decide, h⟩⟩
theorem ones_ok : ∀ l : List D, D.oks (l.map fun _ => D.int 1) = true ∧ D.deps (l.map fun _ => D.int 1) ≤ 0
  | [] => ⟨rfl, Nat.le_refl _⟩
  | a :: l => by
    obtain ⟨h1, h2⟩ := ones_ok l
    refine ⟨?_, ?_⟩
    · show (true && D.oks (l.map fun _ => D.int 1)) = true; rw [h1]; rfl
    · show max 0 (D.deps (l.map fun _ => D.int 1)) ≤ 0; omega
theorem cut_mem {l : List D} {lo hi : Option Int} {u : D} (h : u ∈ DL.cutD l lo hi) : u ∈ l := List.mem_of_mem_drop (List.mem_of_mem_take h)
theorem cut_length (l : List D) (lo hi : Option Int) : (DL.cutD l lo hi).length ≤ l.length := by
  unfold DL.cutD
  rw [List.length_take, List.length_drop]
  omega
theorem instead_go (l : List D) (k : Int) (t : D) (hl : l.length ≤ 1000) (h : ∀ r : List D, (∀ u ∈ r, u ∈ l ∨ u = t) → r.length ≤ 2 * l.length + 1 → q (.tup r)) : fn__law_instead [.tup l, .int k, t] q x := by
  rw [fn__law_instead_eq]; unfold g__law_instead
  refine ⟨rfl, ?_⟩
  dsimp only [fSeq, fIfS, fRet, fRetN, fDrop, fAsg, fName, fGseq, fGtup, fGcons, fGnil, fVar, fK, f1, f2, fNil, fCons, fTup, fLst, fCall, fCall0, fCallG, fCallK, fCallK0, fRaise, fTry, tryX, fTest, gNot, gAnd, gOr, hAnd, hOr, hNot, fIf, fPar2, fPar3, fSkip, fNever, fBrk, fCnt, fIt, fItT, fItL, fFor, forL, startD, entry, pick, D.isNon,
  DL.lt', DL.le', DL.gt', DL.ge', fSl, fPart, fNo, List.map_cons, List.map_nil, List.length_cons, List.length_nil, List.append_nil, List.nil_append, List.cons_append, List.getElem?_cons_zero, List.getElem?_cons_succ, List.set_cons_zero, List.set_cons_succ, List.replicate_succ, List.replicate_zero, List.filterMap_cons, List.filterMap_nil, Nat.zero_add, Nat.reduceAdd, if_true, if_false, Bool.false_eq_true]
  simp only [Nat.sub_self, Nat.reduceSub, List.replicate_zero, List.map_cons, List.map_nil, List.cons_append, List.nil_append, List.append_nil, List.getElem?_cons_zero, List.getElem?_cons_succ, List.set_cons_zero, List.set_cons_succ, List.length_cons, List.length_nil, Nat.zero_add, Nat.reduceAdd, Nat.reduceLT, Nat.reduceLeDiff, ev_add_int, ev_add_lst, ev_add_tup, ev_add_str, ev_cat, ev_cmp, ev_sub, ev_mul, ev_div, ev_mod, ev_pow, ev_max2, ev_min2, ev_gcd, ev_neg, ev_abs, ev_int, ev_intb, ev_len_tup, ev_len_lst, ev_tuple_tup, ev_tuple_lst, ev_list_tup, ev_list_lst, ev_rev, ev_rep, ev_ix0t, ev_ix1t, ev_ix2t, ev_ix0l, ev_ix1l, ev_eq_int, ev_eq_str, ev_isn, ev_is2n, ev_is2b, ev_ty_non, ev_ty_bl, ev_ty_int, ev_ty_str, ev_ty_tup, ev_ty_lst]
  have h1 := cut_length l none (some k)
  have h2 := cut_length l (some (k + 1)) none
  have e : (DL.cutD l none (some k) ++ [t] ++ DL.cutD l (some (k + 1)) none).length ≤ 2 * l.length + 1 := by
    rw [List.length_append, List.length_append, List.length_singleton]
    omega
  refine ⟨LNle (by decide), LNle (by omega), LNle (by rw [List.length_append, List.length_singleton]; omega), h _ (fun u hu => ?_) e⟩
  rcases List.mem_append.mp hu with z | z
  · rcases List.mem_append.mp z with z | z
    · exact .inl (cut_mem z)
    · exact .inr (List.mem_singleton.mp z)
  · exact .inl (cut_mem z)
theorem bent_num (a b c e : Int) (hl : ∀ i ∈ [a, b, c, e], i.natAbs ≤ 10 ^ 38) (h : ∀ t, Vk 8 400000 t → q t) : fn__law_bent [.tup [.int a, .int b, .int c, .int e], .int 1] q x := by
  show fn__law_bent_2 _ _ _
  rw [fn__law_bent_2_eq]; unfold g__law_bent
  refine ⟨rfl, fun d => ?_⟩
  obtain ⟨E, hE⟩ : ∃ E, E = entry false q x := ⟨_, rfl⟩
  have e1 : E.rt = q := by rw [hE]
  have e2 : E.x = x := by rw [hE]
  rw [← hE]
  clear hE
  have p30 : (10 : Nat) ^ 38 * 4 ≤ 10 ^ 40 := by decide
  have vi : ∀ i ∈ [a, b, c, e], Vk 0 2000 (.int i) := fun i hi => Vk.int (Nat.le_trans (hl i hi) (by decide))
  have vi' : ∀ t ∈ [D.int a, .int b, .int c, .int e], Vk 0 2000 t := fun t ht => by
    obtain ⟨i, hi, rfl⟩ := List.mem_map.mp (show t ∈ [a, b, c, e].map D.int from ht)
    exact vi i hi
  refine fSeq_split fun R hR => fIfS_split fun A B hA hB => ?_
  simp only [fSeq, fIfS, fRet, fRetN, fDrop, fAsg, fName, fGseq, fGtup, fGcons, fGnil, fVar, fK, f1, f2, fNil, fCons, fTup, fLst, fCall, fCall0, fCallG, fCallK, fCallK0, fRaise, fTry, tryX, fTest, gNot, gAnd, gOr, hAnd, hOr, hNot, fIf, fPar2, fPar3, fSkip, fNever, fBrk, fCnt, fIt, fItT, fItL, fFor, forL, startD, entry, pick, D.isNon,
  DL.lt', DL.le', DL.gt', DL.ge', fSl, fPart, fNo, List.map_cons, List.map_nil, List.length_cons, List.length_nil, List.append_nil, List.nil_append, List.cons_append, List.getElem?_cons_zero, List.getElem?_cons_succ, List.set_cons_zero, List.set_cons_succ, List.replicate_succ, List.replicate_zero, List.filterMap_cons, List.filterMap_nil, Nat.zero_add, Nat.reduceAdd, if_true, if_false, Bool.false_eq_true, e1, e2, ev_ty_tup, isTy_tuple_tuple, Bool.not_true, eq_tup_nil _ _ _ _ _ (show (D.tup [.int a, .int b, .int c, .int e]).ok = true from rfl) (show 1 ≤ 64 by decide), Bool.false_xor, ev_eq_int, show decide ((1 : Int) = 0) = false from rfl]
  refine ⟨LNle (by decide), trivial, draw_go _ _ _ (by decide) (by decide) fun y y0 y1 => ?_⟩
  simp only [ev_eq_int, Bool.false_xor, decide_eq_true_eq]
  split
  · rw [hA]; clear hA hB A B
    refine fSeq_split fun R1 hR1 => ?_
    simp only [fSeq, fIfS, fRet, fRetN, fDrop, fAsg, fName, fGseq, fGtup, fGcons, fGnil, fVar, fK, f1, f2, fNil, fCons, fTup, fLst, fCall, fCall0, fCallG, fCallK, fCallK0, fRaise, fTry, tryX, fTest, gNot, gAnd, gOr, hAnd, hOr, hNot, fIf, fPar2, fPar3, fSkip, fNever, fBrk, fCnt, fIt, fItT, fItL, fFor, forL, startD, entry, pick, D.isNon,
  DL.lt', DL.le', DL.gt', DL.ge', fSl, fPart, fNo, List.map_cons, List.map_nil, List.length_cons, List.length_nil, List.append_nil, List.nil_append, List.cons_append, List.getElem?_cons_zero, List.getElem?_cons_succ, List.set_cons_zero, List.set_cons_succ, List.replicate_succ, List.replicate_zero, List.filterMap_cons, List.filterMap_nil, Nat.zero_add, Nat.reduceAdd, if_true, if_false, Bool.false_eq_true, e1, e2]
    refine ⟨trivial, draw_go _ _ _ (by decide) (by decide) fun w w0 w1 => ⟨show (3 : Nat) < 7 by decide, ?_⟩⟩
    rw [hR1]; clear hR1 R1
    refine fSeq_split fun R1 hR1 => ?_
    simp only [fSeq, fIfS, fRet, fRetN, fDrop, fAsg, fName, fGseq, fGtup, fGcons, fGnil, fVar, fK, f1, f2, fNil, fCons, fTup, fLst, fCall, fCall0, fCallG, fCallK, fCallK0, fRaise, fTry, tryX, fTest, gNot, gAnd, gOr, hAnd, hOr, hNot, fIf, fPar2, fPar3, fSkip, fNever, fBrk, fCnt, fIt, fItT, fItL, fFor, forL, startD, entry, pick, D.isNon,
  DL.lt', DL.le', DL.gt', DL.ge', fSl, fPart, fNo, List.map_cons, List.map_nil, List.length_cons, List.length_nil, List.append_nil, List.nil_append, List.cons_append, List.getElem?_cons_zero, List.getElem?_cons_succ, List.set_cons_zero, List.set_cons_succ, List.replicate_succ, List.replicate_zero, List.filterMap_cons, List.filterMap_nil, Nat.zero_add, Nat.reduceAdd, if_true, if_false, Bool.false_eq_true, e1, e2]
    refine is_integer_tup _ _ _ ?_
    simp only [Bool.false_eq_true, if_false]
    rw [hR1]; clear hR1 R1
    refine fSeq_split fun R1 hR1 => ?_
    simp only [fSeq, fIfS, fRet, fRetN, fDrop, fAsg, fName, fGseq, fGtup, fGcons, fGnil, fVar, fK, f1, f2, fNil, fCons, fTup, fLst, fCall, fCall0, fCallG, fCallK, fCallK0, fRaise, fTry, tryX, fTest, gNot, gAnd, gOr, hAnd, hOr, hNot, fIf, fPar2, fPar3, fSkip, fNever, fBrk, fCnt, fIt, fItT, fItL, fFor, forL, startD, entry, pick, D.isNon,
  DL.lt', DL.le', DL.gt', DL.ge', fSl, fPart, fNo, List.map_cons, List.map_nil, List.length_cons, List.length_nil, List.append_nil, List.nil_append, List.cons_append, List.getElem?_cons_zero, List.getElem?_cons_succ, List.set_cons_zero, List.set_cons_succ, List.replicate_succ, List.replicate_zero, List.filterMap_cons, List.filterMap_nil, Nat.zero_add, Nat.reduceAdd, if_true, if_false, Bool.false_eq_true, e1, e2, ev_eq_int, ev_ty_tup, isTy_tuple_tuple, Bool.not_true, Bool.false_xor, decide_eq_true_eq]
    split
    · exact ⟨trivial, any_go _ _ fun t ht => h t (ht.mono (by decide) (by decide))⟩
    rw [hR1]; clear hR1 R1
    refine fSeq_split fun R1 hR1 => ?_
    simp only [fSeq, fIfS, fRet, fRetN, fDrop, fAsg, fName, fGseq, fGtup, fGcons, fGnil, fVar, fK, f1, f2, fNil, fCons, fTup, fLst, fCall, fCall0, fCallG, fCallK, fCallK0, fRaise, fTry, tryX, fTest, gNot, gAnd, gOr, hAnd, hOr, hNot, fIf, fPar2, fPar3, fSkip, fNever, fBrk, fCnt, fIt, fItT, fItL, fFor, forL, startD, entry, pick, D.isNon,
  DL.lt', DL.le', DL.gt', DL.ge', fSl, fPart, fNo, List.map_cons, List.map_nil, List.length_cons, List.length_nil, List.append_nil, List.nil_append, List.cons_append, List.getElem?_cons_zero, List.getElem?_cons_succ, List.set_cons_zero, List.set_cons_succ, List.replicate_succ, List.replicate_zero, List.filterMap_cons, List.filterMap_nil, Nat.zero_add, Nat.reduceAdd, if_true, if_false, Bool.false_eq_true, e1, e2, ev_cmp, decide_eq_true_eq]
    split
    · rw [ev_list_tup]
      exact h _ ((Vk.lst (m := 4) vi' (Nat.le_refl _)).mono (by decide) (by decide))
    rw [hR1]; clear hR1 R1
    refine fSeq_split fun R1 hR1 => ?_
    simp only [fSeq, fIfS, fRet, fRetN, fDrop, fAsg, fName, fGseq, fGtup, fGcons, fGnil, fVar, fK, f1, f2, fNil, fCons, fTup, fLst, fCall, fCall0, fCallG, fCallK, fCallK0, fRaise, fTry, tryX, fTest, gNot, gAnd, gOr, hAnd, hOr, hNot, fIf, fPar2, fPar3, fSkip, fNever, fBrk, fCnt, fIt, fItT, fItL, fFor, forL, startD, entry, pick, D.isNon,
  DL.lt', DL.le', DL.gt', DL.ge', fSl, fPart, fNo, List.map_cons, List.map_nil, List.length_cons, List.length_nil, List.append_nil, List.nil_append, List.cons_append, List.getElem?_cons_zero, List.getElem?_cons_succ, List.set_cons_zero, List.set_cons_succ, List.replicate_succ, List.replicate_zero, List.filterMap_cons, List.filterMap_nil, Nat.zero_add, Nat.reduceAdd, if_true, if_false, Bool.false_eq_true, e1, e2, ev_cmp, decide_eq_true_eq]
    split
    · refine ⟨LNle (by decide), LNle (by decide), LNle (by decide), LNle (by decide), LNle (by decide), trivial, pick_go _ _ _ (by simp) (show 6 < 1073741824 by decide) fun t ht => ⟨LNle (by decide), ?_⟩⟩
      rw [ev_add_tup]
      refine ⟨LNle (Nat.le_of_ble_eq_true rfl), h _ ((Vk.tup (k := 3) (n := 8000) (m := 5) (fun u hu => ?_) (Nat.le_of_ble_eq_true rfl)).mono (by decide) (by decide))⟩
      have v1 : Vk 0 2000 (.int 1) := Vk.int (by decide)
      have v3 : Vk 1 7000 (.tup [.int 1, .int 1, .int 1]) := (Vk.tup (m := 3) (fun a ha => by
        have : a = .int 1 := by simpa using ha
        rw [this]; exact v1) (by decide)).mono (by decide) (by decide)
      rcases List.mem_append.mp hu with z | z
      · exact (vi' u z).mono (by decide) (by decide)
      · rw [List.mem_singleton] at z
        subst z
        simp at ht
        rcases ht with z | z | z | z | z | z
        · rw [z]; exact (Vk.tup (k := 0) (n := 0) (m := 0) (fun a ha => by cases ha) (Nat.le_refl _)).mono (by decide) (by decide)
        · rw [z]; exact (Vk.int (by decide)).mono (by decide) (by decide)
        · rw [z]; exact v3.mono (by decide) (by decide)
        · rw [z]; exact (Vk.tup (m := 1) (fun a ha => by rw [List.mem_singleton.mp ha]; exact v3) (by decide)).mono (by decide) (by decide)
        · rw [z]; exact Vk.non.mono (by decide) (by decide)
        · rw [z]; exact (Vk.bl _).mono (by decide) (by decide)
    rw [hR1]; clear hR1 R1
    refine fSeq_split fun R1 hR1 => fIfS_split fun A B hA hB => ?_
    simp only [fSeq, fIfS, fRet, fRetN, fDrop, fAsg, fName, fGseq, fGtup, fGcons, fGnil, fVar, fK, f1, f2, fNil, fCons, fTup, fLst, fCall, fCall0, fCallG, fCallK, fCallK0, fRaise, fTry, tryX, fTest, gNot, gAnd, gOr, hAnd, hOr, hNot, fIf, fPar2, fPar3, fSkip, fNever, fBrk, fCnt, fIt, fItT, fItL, fFor, forL, startD, entry, pick, D.isNon,
  DL.lt', DL.le', DL.gt', DL.ge', fSl, fPart, fNo, List.map_cons, List.map_nil, List.length_cons, List.length_nil, List.append_nil, List.nil_append, List.cons_append, List.getElem?_cons_zero, List.getElem?_cons_succ, List.set_cons_zero, List.set_cons_succ, List.replicate_succ, List.replicate_zero, List.filterMap_cons, List.filterMap_nil, Nat.zero_add, Nat.reduceAdd, if_true, if_false, Bool.false_eq_true, e1, e2, ev_cmp, decide_eq_true_eq]
    split
    · rw [hA]; clear hA hB A B
      refine fSeq_split fun R2 hR2 => ?_
      simp only [fLc, fSeq, fIfS, fRet, fRetN, fDrop, fAsg, fName, fGseq, fGtup, fGcons, fGnil, fVar, fK, f1, f2, fNil, fCons, fTup, fLst, fCall, fCall0, fCallG, fCallK, fCallK0, fRaise, fTry, tryX, fTest, gNot, gAnd, gOr, hAnd, hOr, hNot, fIf, fPar2, fPar3, fSkip, fNever, fBrk, fCnt, fIt, fItT, fItL, fFor, forL, startD, entry, pick, D.isNon,
  DL.lt', DL.le', DL.gt', DL.ge', fSl, fPart, fNo, List.map_cons, List.map_nil, List.length_cons, List.length_nil, List.append_nil, List.nil_append, List.cons_append, List.getElem?_cons_zero, List.getElem?_cons_succ, List.set_cons_zero, List.set_cons_succ, List.replicate_succ, List.replicate_zero, List.filterMap_cons, List.filterMap_nil, Nat.zero_add, Nat.reduceAdd, if_true, if_false, Bool.false_eq_true, e1, e2, ev_pow]
      refine lc_filter (fun a => match a with | .int i => DL.gt' (absI i) (10 ^ (6 : Int).toNat) | _ => false) (fun _ => .int 1) _ [] (fun t ht nx hx => ?_) (LNle (Nat.le_of_ble_eq_true rfl)) ?_
      · obtain ⟨i, hi, rfl⟩ := List.mem_map.mp (show t ∈ [a, b, c, e].map D.int from ht)
        refine ⟨show (5 : Nat) < 7 by decide, ?_⟩
        simp only [wipeD, fSeq, fIfS, fRet, fRetN, fDrop, fAsg, fName, fGseq, fGtup, fGcons, fGnil, fVar, fK, f1, f2, fNil, fCons, fTup, fLst, fCall, fCall0, fCallG, fCallK, fCallK0, fRaise, fTry, tryX, fTest, gNot, gAnd, gOr, hAnd, hOr, hNot, fIf, fPar2, fPar3, fSkip, fNever, fBrk, fCnt, fIt, fItT, fItL, fFor, forL, startD, entry, pick, D.isNon,
  DL.lt', DL.le', DL.gt', DL.ge', fSl, fPart, fNo, List.map_cons, List.map_nil, List.length_cons, List.length_nil, List.append_nil, List.nil_append, List.cons_append, List.getElem?_cons_zero, List.getElem?_cons_succ, List.set_cons_zero, List.set_cons_succ, List.replicate_succ, List.replicate_zero, List.filterMap_cons, List.filterMap_nil, Nat.zero_add, Nat.reduceAdd, if_true, if_false, Bool.false_eq_true]
        refine is_integer_int _ _ _ ?_
        simp only [ev_abs, ev_pow, ev_cmp, if_true]
        exact ⟨⟨by decide, by decide, by decide⟩, hx _ fun q' hq => hq⟩
      · rw [List.nil_append]
        refine ⟨LNle (by decide), ?_⟩
        rw [eq_lst_nil _ _ _ _ (ones_ok _).1 (Nat.le_trans (Nat.add_le_add_right (ones_ok _).2 1) (by decide))]
        refine ⟨show (4 : Nat) < 7 by decide, ?_⟩
        rw [hR2]; clear hR2 R2
        simp only [fSeq, fIfS, fRet, fRetN, fDrop, fAsg, fName, fGseq, fGtup, fGcons, fGnil, fVar, fK, f1, f2, fNil, fCons, fTup, fLst, fCall, fCall0, fCallG, fCallK, fCallK0, fRaise, fTry, tryX, fTest, gNot, gAnd, gOr, hAnd, hOr, hNot, fIf, fPar2, fPar3, fSkip, fNever, fBrk, fCnt, fIt, fItT, fItL, fFor, forL, startD, entry, pick, D.isNon,
  DL.lt', DL.le', DL.gt', DL.ge', fSl, fPart, fNo, List.map_cons, List.map_nil, List.length_cons, List.length_nil, List.append_nil, List.nil_append, List.cons_append, List.getElem?_cons_zero, List.getElem?_cons_succ, List.set_cons_zero, List.set_cons_succ, List.replicate_succ, List.replicate_zero, List.filterMap_cons, List.filterMap_nil, Nat.zero_add, Nat.reduceAdd, if_true, if_false, Bool.false_eq_true, e1, e2]
        split
        · rw [ev_list_tup]
          exact h _ ((Vk.lst (m := 4) vi' (Nat.le_refl _)).mono (by decide) (by decide))
        · show q (.tup [D.int a, .int b, .int c, .int e].reverse)
          exact h _ ((Vk.tup (m := 4) (fun u hu => vi' u (List.mem_reverse.mp hu)) (Nat.le_refl _)).mono (by decide) (by decide))
    rw [hB]; clear hA hB A B
    simp only [fSeq, fIfS, fRet, fRetN, fDrop, fAsg, fName, fGseq, fGtup, fGcons, fGnil, fVar, fK, f1, f2, fNil, fCons, fTup, fLst, fCall, fCall0, fCallG, fCallK, fCallK0, fRaise, fTry, tryX, fTest, gNot, gAnd, gOr, hAnd, hOr, hNot, fIf, fPar2, fPar3, fSkip, fNever, fBrk, fCnt, fIt, fItT, fItL, fFor, forL, startD, entry, pick, D.isNon,
  DL.lt', DL.le', DL.gt', DL.ge', fSl, fPart, fNo, List.map_cons, List.map_nil, List.length_cons, List.length_nil, List.append_nil, List.nil_append, List.cons_append, List.getElem?_cons_zero, List.getElem?_cons_succ, List.set_cons_zero, List.set_cons_succ, List.replicate_succ, List.replicate_zero, List.filterMap_cons, List.filterMap_nil, Nat.zero_add, Nat.reduceAdd, if_true, if_false, Bool.false_eq_true]
    rw [hR1]; clear hR1 R1
    refine fSeq_split fun R1 hR1 => ?_
    simp only [fSeq, fIfS, fRet, fRetN, fDrop, fAsg, fName, fGseq, fGtup, fGcons, fGnil, fVar, fK, f1, f2, fNil, fCons, fTup, fLst, fCall, fCall0, fCallG, fCallK, fCallK0, fRaise, fTry, tryX, fTest, gNot, gAnd, gOr, hAnd, hOr, hNot, fIf, fPar2, fPar3, fSkip, fNever, fBrk, fCnt, fIt, fItT, fItL, fFor, forL, startD, entry, pick, D.isNon,
  DL.lt', DL.le', DL.gt', DL.ge', fSl, fPart, fNo, List.map_cons, List.map_nil, List.length_cons, List.length_nil, List.append_nil, List.nil_append, List.cons_append, List.getElem?_cons_zero, List.getElem?_cons_succ, List.set_cons_zero, List.set_cons_succ, List.replicate_succ, List.replicate_zero, List.filterMap_cons, List.filterMap_nil, Nat.zero_add, Nat.reduceAdd, if_true, if_false, Bool.false_eq_true, e1, e2, ev_cmp, decide_eq_true_eq, ev_add_tup]
    split
    · refine ⟨LNle ?_, h _ ((Vk.tup (k := 0) (n := 2000) (m := 8) (fun u hu => ?_) ?_).mono (by decide) (by decide))⟩
      · have := cut_length [D.int a, .int b, .int c, .int e] none (some 1)
        simp only [List.length_cons, List.length_nil] at this ⊢
        omega
      · have hu' : u ∈ [D.int a, .int b, .int c, .int e] ++ DL.cutD [D.int a, .int b, .int c, .int e] none (some 1) := hu
        rcases List.mem_append.mp hu' with z | z
        · exact vi' u z
        · exact vi' u (cut_mem z)
      · have := cut_length [D.int a, .int b, .int c, .int e] none (some 1)
        simp only [List.length_cons, List.length_nil] at this ⊢
        omega
    rw [hR1]; clear hR1 R1
    simp only [fSeq, fIfS, fRet, fRetN, fDrop, fAsg, fName, fGseq, fGtup, fGcons, fGnil, fVar, fK, f1, f2, fNil, fCons, fTup, fLst, fCall, fCall0, fCallG, fCallK, fCallK0, fRaise, fTry, tryX, fTest, gNot, gAnd, gOr, hAnd, hOr, hNot, fIf, fPar2, fPar3, fSkip, fNever, fBrk, fCnt, fIt, fItT, fItL, fFor, forL, startD, entry, pick, D.isNon,
  DL.lt', DL.le', DL.gt', DL.ge', fSl, fPart, fNo, List.map_cons, List.map_nil, List.length_cons, List.length_nil, List.append_nil, List.nil_append, List.cons_append, List.getElem?_cons_zero, List.getElem?_cons_succ, List.set_cons_zero, List.set_cons_succ, List.replicate_succ, List.replicate_zero, List.filterMap_cons, List.filterMap_nil, Nat.zero_add, Nat.reduceAdd, if_true, if_false, Bool.false_eq_true, e1, e2, ev_cmp, decide_eq_true_eq]
    split
    · exact h _ ((Vk.tup (m := 4) (fun u hu => vi' u (cut_mem hu)) (cut_length _ _ _)).mono (by decide) (by decide))
    · refine ⟨LNle (by decide), h _ ((Vk.tup (k := 1) (n := 9000) (m := 1) (fun u hu => ?_) (Nat.le_refl _)).mono (by decide) (by decide))⟩
      rw [List.mem_singleton.mp hu]
      exact (Vk.tup (m := 4) vi' (Nat.le_refl _)).mono (by decide) (by decide)
  · rw [hB]; clear hA hB A B
    simp only [fSeq, fIfS, fRet, fRetN, fDrop, fAsg, fName, fGseq, fGtup, fGcons, fGnil, fVar, fK, f1, f2, fNil, fCons, fTup, fLst, fCall, fCall0, fCallG, fCallK, fCallK0, fRaise, fTry, tryX, fTest, gNot, gAnd, gOr, hAnd, hOr, hNot, fIf, fPar2, fPar3, fSkip, fNever, fBrk, fCnt, fIt, fItT, fItL, fFor, forL, startD, entry, pick, D.isNon,
  DL.lt', DL.le', DL.gt', DL.ge', fSl, fPart, fNo, List.map_cons, List.map_nil, List.length_cons, List.length_nil, List.append_nil, List.nil_append, List.cons_append, List.getElem?_cons_zero, List.getElem?_cons_succ, List.set_cons_zero, List.set_cons_succ, List.replicate_succ, List.replicate_zero, List.filterMap_cons, List.filterMap_nil, Nat.zero_add, Nat.reduceAdd, if_true, if_false, Bool.false_eq_true]
    rw [hR]; clear hR R
    refine fSeq_split fun R hR => ?_
    simp only [fSeq, fIfS, fRet, fRetN, fDrop, fAsg, fName, fGseq, fGtup, fGcons, fGnil, fVar, fK, f1, f2, fNil, fCons, fTup, fLst, fCall, fCall0, fCallG, fCallK, fCallK0, fRaise, fTry, tryX, fTest, gNot, gAnd, gOr, hAnd, hOr, hNot, fIf, fPar2, fPar3, fSkip, fNever, fBrk, fCnt, fIt, fItT, fItL, fFor, forL, startD, entry, pick, D.isNon,
  DL.lt', DL.le', DL.gt', DL.ge', fSl, fPart, fNo, List.map_cons, List.map_nil, List.length_cons, List.length_nil, List.append_nil, List.nil_append, List.cons_append, List.getElem?_cons_zero, List.getElem?_cons_succ, List.set_cons_zero, List.set_cons_succ, List.replicate_succ, List.replicate_zero, List.filterMap_cons, List.filterMap_nil, Nat.zero_add, Nat.reduceAdd, if_true, if_false, Bool.false_eq_true, e1, e2, ev_len_tup]
    refine ⟨trivial, draw_go _ _ _ (by decide) (by decide) fun w w0 w1 => ⟨show (6 : Nat) < 7 by decide, ?_⟩⟩
    rw [hR]; clear hR R
    obtain ⟨k, rfl⟩ := Int.eq_ofNat_of_zero_le w0
    have hk : k < [a, b, c, e].length := by
      simp only [List.length_cons, List.length_nil]
      omega
    have at1 : atI [D.int a, .int b, .int c, .int e] (k : Int) = some (.int ([a, b, c, e][k])) := DL.atI_nat (by
      rw [show [D.int a, .int b, .int c, .int e] = [a, b, c, e].map D.int from rfl, List.getElem?_map, List.getElem?_eq_getElem hk]; rfl)
    simp only [fSeq, fIfS, fRet, fRetN, fDrop, fAsg, fName, fGseq, fGtup, fGcons, fGnil, fVar, fK, f1, f2, fNil, fCons, fTup, fLst, fCall, fCall0, fCallG, fCallK, fCallK0, fRaise, fTry, tryX, fTest, gNot, gAnd, gOr, hAnd, hOr, hNot, fIf, fPar2, fPar3, fSkip, fNever, fBrk, fCnt, fIt, fItT, fItL, fFor, forL, startD, entry, pick, D.isNon,
  DL.lt', DL.le', DL.gt', DL.ge', fSl, fPart, fNo, List.map_cons, List.map_nil, List.length_cons, List.length_nil, List.append_nil, List.nil_append, List.cons_append, List.getElem?_cons_zero, List.getElem?_cons_succ, List.set_cons_zero, List.set_cons_succ, List.replicate_succ, List.replicate_zero, List.filterMap_cons, List.filterMap_nil, Nat.zero_add, Nat.reduceAdd, if_true, if_false, Bool.false_eq_true, e1, e2, ev_ix_tup _ _ at1, ev_sub]
    refine ⟨trivial, bent_int _ _ _ (hl _ (List.getElem_mem hk)) fun u hu => ?_⟩
    refine instead_go _ _ _ _ u (Nat.le_of_ble_eq_true rfl) fun r h1 h2 => h _ ((Vk.tup (k := 1) (n := 3000) (m := 9) (fun v hv => ?_) h2).mono (by decide) (by decide))
    rcases h1 v hv with z | z
    · exact (vi' v z).mono (by decide) (by decide)
    · rw [z]; exact hu
end

section
variable (q : D → Prop) (x : XD)
abbrev roots0 : List Int := [1, 1, 1, 2, 3, -1, 5, -3, 6, -2, 1, 1, 21, -35, 101, 9973]
theorem dOf_small {dd : Int} (h : dd ∈ roots0) : (dOf dd).natAbs ≤ 9973 := (Rt.dOf h).2
theorem nd_ints {dd : Int} (hd : dd ∈ roots0) {e : El (dOf dd)} {n : Nat} (he : Sx e n) (hn : n ≤ 95) : ∀ i ∈ [(cn e).1, (cn e).2.1, (cn e).2.2, dn e], i.natAbs ≤ 10 ^ 38 := fun i hi => by
  obtain ⟨b1, b2, b3⟩ := he.canon (Rq.dOf hd).rt.ne0 (cn_ok e)
  have p : 2 ^ n ≤ 10 ^ 38 := Nat.le_trans (Nat.pow_le_pow_right (by decide) hn) (by decide)
  have hdn : (dn e).natAbs ≤ 10 ^ 38 := by
    unfold dn
    split
    · decide
    · exact Nat.le_trans (dOf_small hd) (by decide)
  simp only [List.mem_cons, List.not_mem_nil, or_false] at hi
  rcases hi with z | z | z | z <;> rw [z]
  · exact Nat.le_trans b2 p
  · exact Nat.le_trans b3 p
  · exact Nat.le_trans b1 p
  · exact hdn
theorem Vk.ints {l : List Int} (h : ∀ i ∈ l, i.natAbs ≤ 10 ^ 40) (hl : l.length ≤ 10) : Vk 1 21000 (.tup (l.map D.int)) :=
  (Vk.tup (k := 0) (n := 2000) (m := 10) (fun a ha => by
    obtain ⟨i, hi, rfl⟩ := List.mem_map.mp ha
    exact Vk.int (h i hi)) (by rw [List.length_map]; exact hl)).mono (by decide) (by decide)
theorem Vk.nd {dd : Int} (hd : dd ∈ roots0) {e : El (dOf dd)} {n : Nat} (he : Sx e n) (hn : n ≤ 95) : Vk 1 21000 (nd e) := by
  rw [nd_eq]
  exact Vk.ints (l := [(cn e).1, (cn e).2.1, (cn e).2.2, dn e]) (fun i hi => Nat.le_trans (nd_ints hd he hn i hi) (by decide)) (Nat.le_of_ble_eq_true rfl)
end

section
variable (q : D → Prop) (x : XD)
/-! ### which values are numbers -/
def isI : D → Bool
  | .int _ => true
  | _ => false
theorem isI_int {a : D} (h : isI a = true) : ∃ i, a = .int i := by
  cases a with
  | int i => exact ⟨i, rfl⟩
  | _ => cases h
def NumI (p r s d : Int) : Prop := 1 ≤ s ∧ gcdI (gcdI p r) s = 1 ∧ ((r = 0 ∧ d = 1) ∨ (r ≠ 0 ∧ d ≠ 1 ∧ d ≠ 0 ∧ d.natAbs ≤ 10 ^ 12 ∧ SF d.natAbs))
def NumB (a : D) : Prop := ∃ p r s d : Int, a = .tup [.int p, .int r, .int s, .int d] ∧ NumI p r s d
theorem isTy_cases : isTy "int" "NoneType" = false ∧ isTy "int" "str" = false ∧ isTy "int" "tuple" = false ∧ isTy "int" "list" = false ∧ isTy "int" "dict" = false ∧ isTy "tuple" "NoneType" = false ∧ isTy "tuple" "bool" = false ∧ isTy "tuple" "str" = false ∧ isTy "tuple" "list" = false ∧ isTy "tuple" "dict" = false := by decide +kernel
theorem ev_ty_dic (n : String) (ks : List Key) (vs : List D) : sIsi n (.dic ks vs) q x = q (.bl (isTy n "dict")) := rfl
theorem is_whole_any (a : D) (ha : a.okR = true) (h : q (.bl (isI a))) : fn_is_whole [a] q x := by
  rw [fn_is_whole_eq]; unfold g_is_whole
  refine ⟨rfl, ?_⟩
  obtain ⟨t1, t2, t3, t4, t5, _⟩ := isTy_cases
  dsimp only [fSeq, fIfS, fRet, fRetN, fDrop, fAsg, fName, fGseq, fGtup, fGcons, fGnil, fVar, fK, f1, f2, fNil, fCons, fTup, fLst, fCall, fCall0, fCallG, fCallK, fCallK0, fRaise, fTry, tryX, fTest, gNot, gAnd, gOr, hAnd, hOr, hNot, fIf, fPar2, fPar3, fSkip, fNever, fBrk, fCnt, fIt, fItT, fItL, fFor, forL, startD, entry, pick, D.isNon,
  DL.lt', DL.le', DL.gt', DL.ge', fSl, fPart, fNo, List.map_cons, List.map_nil, List.length_cons, List.length_nil, List.append_nil, List.nil_append, List.cons_append, List.getElem?_cons_zero, List.getElem?_cons_succ, List.set_cons_zero, List.set_cons_succ, List.replicate_succ, List.replicate_zero, List.filterMap_cons, List.filterMap_nil, Nat.zero_add, Nat.reduceAdd, if_true, if_false, Bool.false_eq_true]
  cases a with
  | ref b => cases ha
  | _ =>
    simp only [Nat.sub_self, Nat.reduceSub, List.replicate_zero, List.map_cons, List.map_nil, List.cons_append, List.nil_append, List.append_nil, List.getElem?_cons_zero, List.getElem?_cons_succ, List.set_cons_zero, List.set_cons_succ, List.length_cons, List.length_nil, Nat.zero_add, Nat.reduceAdd, Nat.reduceLT, Nat.reduceLeDiff, ev_add_int, ev_add_lst, ev_add_tup, ev_add_str, ev_cat, ev_cmp, ev_sub, ev_mul, ev_div, ev_mod, ev_pow, ev_max2, ev_min2, ev_gcd, ev_neg, ev_abs, ev_int, ev_intb, ev_len_tup, ev_len_lst, ev_tuple_tup, ev_tuple_lst, ev_list_tup, ev_list_lst, ev_rev, ev_rep, ev_ix0t, ev_ix1t, ev_ix2t, ev_ix0l, ev_ix1l, ev_eq_int, ev_eq_str, ev_isn, ev_is2n, ev_is2b, ev_ty_non, ev_ty_bl, ev_ty_int, ev_ty_str, ev_ty_tup, ev_ty_lst, ev_ty_dic, isTy_int_int, isTy_bool_int, isTy_int_bool, isTy_bool_bool, t1, t2, t3, t4, t5, Bool.not_false, Bool.not_true, if_true, Bool.false_eq_true, if_false]
    exact h
theorem is_integer_any (a : D) (ha : a.okR = true) (h : q (.bl (isI a))) : fn__law_is_integer [a] q x := by
  rw [fn__law_is_integer_eq]; unfold g__law_is_integer
  refine ⟨rfl, ?_⟩
  obtain ⟨t1, t2, t3, t4, t5, _⟩ := isTy_cases
  dsimp only [fSeq, fIfS, fRet, fRetN, fDrop, fAsg, fName, fGseq, fGtup, fGcons, fGnil, fVar, fK, f1, f2, fNil, fCons, fTup, fLst, fCall, fCall0, fCallG, fCallK, fCallK0, fRaise, fTry, tryX, fTest, gNot, gAnd, gOr, hAnd, hOr, hNot, fIf, fPar2, fPar3, fSkip, fNever, fBrk, fCnt, fIt, fItT, fItL, fFor, forL, startD, entry, pick, D.isNon,
  DL.lt', DL.le', DL.gt', DL.ge', fSl, fPart, fNo, List.map_cons, List.map_nil, List.length_cons, List.length_nil, List.append_nil, List.nil_append, List.cons_append, List.getElem?_cons_zero, List.getElem?_cons_succ, List.set_cons_zero, List.set_cons_succ, List.replicate_succ, List.replicate_zero, List.filterMap_cons, List.filterMap_nil, Nat.zero_add, Nat.reduceAdd, if_true, if_false, Bool.false_eq_true]
  cases a with
  | ref b => cases ha
  | _ =>
    simp only [Nat.sub_self, Nat.reduceSub, List.replicate_zero, List.map_cons, List.map_nil, List.cons_append, List.nil_append, List.append_nil, List.getElem?_cons_zero, List.getElem?_cons_succ, List.set_cons_zero, List.set_cons_succ, List.length_cons, List.length_nil, Nat.zero_add, Nat.reduceAdd, Nat.reduceLT, Nat.reduceLeDiff, ev_add_int, ev_add_lst, ev_add_tup, ev_add_str, ev_cat, ev_cmp, ev_sub, ev_mul, ev_div, ev_mod, ev_pow, ev_max2, ev_min2, ev_gcd, ev_neg, ev_abs, ev_int, ev_intb, ev_len_tup, ev_len_lst, ev_tuple_tup, ev_tuple_lst, ev_list_tup, ev_list_lst, ev_rev, ev_rep, ev_ix0t, ev_ix1t, ev_ix2t, ev_ix0l, ev_ix1l, ev_eq_int, ev_eq_str, ev_isn, ev_is2n, ev_is2b, ev_ty_non, ev_ty_bl, ev_ty_int, ev_ty_str, ev_ty_tup, ev_ty_lst, ev_ty_dic, isTy_int_int, isTy_bool_int, isTy_int_bool, isTy_bool_bool, t1, t2, t3, t4, t5, Bool.not_false, Bool.not_true, if_true, Bool.false_eq_true, if_false]
    exact h
/-- not a tuple; or one -/
theorem tup_or (a : D) (ha : a.okR = true) : (∃ l, a = .tup l) ∨ ((∀ (q : D → Prop) (x : XD), sIsi "tuple" a q x = q (.bl false)) ∧ ¬ NumB a) := by
  obtain ⟨_, _, _, _, _, t1, t2, t3, t4, t5⟩ := isTy_cases
  cases a with
  | ref b => cases ha
  | tup l => exact .inl ⟨l, rfl⟩
  | non => exact .inr ⟨fun q x => by rw [ev_ty_non, t1], fun ⟨_, _, _, _, h, _⟩ => nomatch h⟩
  | bl b => exact .inr ⟨fun q x => by rw [ev_ty_bl, t2], fun ⟨_, _, _, _, h, _⟩ => nomatch h⟩
  | int b => exact .inr ⟨fun q x => by rw [ev_ty_int, isTy_tuple_int], fun ⟨_, _, _, _, h, _⟩ => nomatch h⟩
  | str b => exact .inr ⟨fun q x => by rw [ev_ty_str, t3], fun ⟨_, _, _, _, h, _⟩ => nomatch h⟩
  | lst b => exact .inr ⟨fun q x => by rw [ev_ty_lst, t4], fun ⟨_, _, _, _, h, _⟩ => nomatch h⟩
  | dic b c => exact .inr ⟨fun q x => by rw [ev_ty_dic, t5], fun ⟨_, _, _, _, h, _⟩ => nomatch h⟩
theorem okR_mem : ∀ {l : List D}, D.oksR l = true → ∀ a ∈ l, a.okR = true
  | [], _, _, h => by cases h
  | b :: l, o, a, h => by
    have o' : (b.okR && D.oksR l) = true := o
    rw [Bool.and_eq_true] at o'
    rcases List.mem_cons.mp h with z | z
    · rw [z]; exact o'.1
    · exact okR_mem o'.2 a z
theorem numI_root {p r s d : Int} (hr : r = 0) : NumI p r s d ↔ 1 ≤ s ∧ gcdI (gcdI p r) s = 1 ∧ d = 1 := by
  unfold NumI
  constructor
  · rintro ⟨h1, h2, h | h⟩
    · exact ⟨h1, h2, h.2⟩
    · exact absurd hr h.1
  · rintro ⟨h1, h2, h3⟩
    exact ⟨h1, h2, .inl ⟨hr, h3⟩⟩
theorem numI_sq {p r s d : Int} (hr : r ≠ 0) : NumI p r s d ↔ 1 ≤ s ∧ gcdI (gcdI p r) s = 1 ∧ d ≠ 1 ∧ d ≠ 0 ∧ d.natAbs ≤ 10 ^ 12 ∧ SF d.natAbs := by
  unfold NumI
  constructor
  · rintro ⟨h1, h2, h | h⟩
    · exact absurd h.1 hr
    · exact ⟨h1, h2, h.2⟩
  · rintro ⟨h1, h2, h3⟩
    exact ⟨h1, h2, .inr ⟨hr, h3⟩⟩
theorem number_value_ints (p r s d : Int) (h : ∀ b : Bool, (b = true ↔ NumI p r s d) → q (.bl b)) : fn_is_number_value [.tup [.int p, .int r, .int s, .int d]] q x := by
  rw [fn_is_number_value_eq]; unfold g_is_number_value
  refine ⟨rfl, ?_⟩
  dsimp only [fSeq, fIfS, fRet, fRetN, fDrop, fAsg, fName, fGseq, fGtup, fGcons, fGnil, fVar, fK, f1, f2, fNil, fCons, fTup, fLst, fCall, fCall0, fCallG, fCallK, fCallK0, fRaise, fTry, tryX, fTest, gNot, gAnd, gOr, hAnd, hOr, hNot, fIf, fPar2, fPar3, fSkip, fNever, fBrk, fCnt, fIt, fItT, fItL, fFor, forL, startD, entry, pick, D.isNon,
  DL.lt', DL.le', DL.gt', DL.ge', fSl, fPart, fNo, List.map_cons, List.map_nil, List.length_cons, List.length_nil, List.append_nil, List.nil_append, List.cons_append, List.getElem?_cons_zero, List.getElem?_cons_succ, List.set_cons_zero, List.set_cons_succ, List.replicate_succ, List.replicate_zero, List.filterMap_cons, List.filterMap_nil, Nat.zero_add, Nat.reduceAdd, if_true, if_false, Bool.false_eq_true]
  simp only [Nat.sub_self, Nat.reduceSub, List.replicate_zero, List.map_cons, List.map_nil, List.cons_append, List.nil_append, List.append_nil, List.getElem?_cons_zero, List.getElem?_cons_succ, List.set_cons_zero, List.set_cons_succ, List.length_cons, List.length_nil, Nat.zero_add, Nat.reduceAdd, Nat.reduceLT, Nat.reduceLeDiff, ev_add_int, ev_add_lst, ev_add_tup, ev_add_str, ev_cat, ev_cmp, ev_sub, ev_mul, ev_div, ev_mod, ev_pow, ev_max2, ev_min2, ev_gcd, ev_neg, ev_abs, ev_int, ev_intb, ev_len_tup, ev_len_lst, ev_tuple_tup, ev_tuple_lst, ev_list_tup, ev_list_lst, ev_rev, ev_rep, ev_ix0t, ev_ix1t, ev_ix2t, ev_ix0l, ev_ix1l, ev_eq_int, ev_eq_str, ev_isn, ev_is2n, ev_is2b, ev_ty_non, ev_ty_bl, ev_ty_int, ev_ty_str, ev_ty_tup, ev_ty_lst, isTy_tuple_tuple, Bool.not_true, Bool.false_eq_true, if_false, Bool.true_xor, show ((4 : Nat) : Int) = 4 from rfl, decide_true]
  refine lc_map (fun _ => .bl true) _ [] (fun a ha q' h' => ?_) (by simp [LN]) (all_true _ _ _ ?_)
  · have : ∃ i : Int, a = .int i := by simp at ha; rcases ha with e | e | e | e <;> exact ⟨_, e⟩
    obtain ⟨i, rfl⟩ := this
    exact ⟨show (1 : Nat) < 6 by decide, is_whole_int _ _ i h'⟩
  · simp only [Bool.not_true, Bool.false_eq_true, if_false, true_and, DL.lt', decide_eq_true_eq]
    by_cases h1 : s < 1
    · simp only [h1, if_true]
      exact h _ ⟨(fun z => nomatch z), fun z => absurd z.1 (by omega)⟩
    simp only [h1, if_false]
    by_cases h2 : gcdI (gcdI p r) s = 1
    · simp only [h2, decide_true, Bool.not_true, Bool.false_eq_true, if_false, Bool.false_xor, decide_eq_true_eq]
      by_cases hr : r = 0
      · simp only [hr, if_true]
        exact h _ (by rw [decide_eq_true_eq, numI_root hr]; exact ⟨fun z => ⟨by omega, h2, z⟩, fun z => z.2.2⟩)
      · simp only [hr, if_false]
        by_cases hd : d = 1
        · simp only [hd, decide_true, Bool.not_true, Bool.false_eq_true, if_false]
          exact h _ ⟨(fun z => nomatch z), fun z => absurd hd ((numI_sq hr).mp z).2.2.1⟩
        · simp only [hd, decide_false, Bool.not_false, if_true]
          refine is_squarefree_go _ _ d fun b hb => h b ?_
          rw [hb, numI_sq hr]
          exact ⟨fun z => ⟨by omega, h2, hd, z⟩, fun z => z.2.2.2⟩
    · simp only [h2, decide_false, Bool.not_false, if_true]
      exact h _ ⟨(fun z => nomatch z), fun z => absurd z.2.1 h2⟩
theorem number_value_any (a : D) (ha : a.okR = true) (h : ∀ b : Bool, (b = true ↔ NumB a) → q (.bl b)) : fn_is_number_value [a] q x := by
  rcases tup_or a ha with ⟨l, rfl⟩ | ⟨e, hn⟩
  · by_cases hl : l.length = 4
    · by_cases hi : ∀ a ∈ l, isI a = true
      · match l, hl, hi with
        | [a, b, c, d], _, hi =>
          obtain ⟨p, rfl⟩ := isI_int (hi a (by simp))
          obtain ⟨r, rfl⟩ := isI_int (hi b (by simp))
          obtain ⟨s, rfl⟩ := isI_int (hi c (by simp))
          obtain ⟨d, rfl⟩ := isI_int (hi d (by simp))
          exact number_value_ints q x p r s d fun b hb => h b (hb.trans ⟨fun z => ⟨_, _, _, _, rfl, z⟩, fun ⟨_, _, _, _, e, z⟩ => by
            injection e with e
            injection e with e1 e
            injection e with e2 e
            injection e with e3 e
            injection e with e4 e
            injection e1 with e1
            injection e2 with e2
            injection e3 with e3
            injection e4 with e4
            rw [e1, e2, e3, e4]; exact z⟩)
      · rw [fn_is_number_value_eq]; unfold g_is_number_value
        refine ⟨rfl, ?_⟩
        dsimp only [fSeq, fIfS, fRet, fRetN, fDrop, fAsg, fName, fGseq, fGtup, fGcons, fGnil, fVar, fK, f1, f2, fNil, fCons, fTup, fLst, fCall, fCall0, fCallG, fCallK, fCallK0, fRaise, fTry, tryX, fTest, gNot, gAnd, gOr, hAnd, hOr, hNot, fIf, fPar2, fPar3, fSkip, fNever, fBrk, fCnt, fIt, fItT, fItL, fFor, forL, startD, entry, pick, D.isNon,
  DL.lt', DL.le', DL.gt', DL.ge', fSl, fPart, fNo, List.map_cons, List.map_nil, List.length_cons, List.length_nil, List.append_nil, List.nil_append, List.cons_append, List.getElem?_cons_zero, List.getElem?_cons_succ, List.set_cons_zero, List.set_cons_succ, List.replicate_succ, List.replicate_zero, List.filterMap_cons, List.filterMap_nil, Nat.zero_add, Nat.reduceAdd, if_true, if_false, Bool.false_eq_true]
        simp only [Nat.sub_self, Nat.reduceSub, List.replicate_zero, List.map_cons, List.map_nil, List.cons_append, List.nil_append, List.append_nil, List.getElem?_cons_zero, List.getElem?_cons_succ, List.set_cons_zero, List.set_cons_succ, List.length_cons, List.length_nil, Nat.zero_add, Nat.reduceAdd, Nat.reduceLT, Nat.reduceLeDiff, ev_add_int, ev_add_lst, ev_add_tup, ev_add_str, ev_cat, ev_cmp, ev_sub, ev_mul, ev_div, ev_mod, ev_pow, ev_max2, ev_min2, ev_gcd, ev_neg, ev_abs, ev_int, ev_intb, ev_len_tup, ev_len_lst, ev_tuple_tup, ev_tuple_lst, ev_list_tup, ev_list_lst, ev_rev, ev_rep, ev_ix0t, ev_ix1t, ev_ix2t, ev_ix0l, ev_ix1l, ev_eq_int, ev_eq_str, ev_isn, ev_is2n, ev_is2b, ev_ty_non, ev_ty_bl, ev_ty_int, ev_ty_str, ev_ty_tup, ev_ty_lst, isTy_tuple_tuple, Bool.not_true, Bool.false_eq_true, if_false, Bool.true_xor, hl, show ((4 : Nat) : Int) = 4 from rfl, decide_true]
        show lcL _ _ _ _ _ _ _ l []
        refine lc_map (fun a => .bl (isI a)) _ [] (fun a h' q' hq => ⟨show (1 : Nat) < 6 by decide, is_whole_any _ _ a (okR_mem ha a h') hq⟩) (LNle (by rw [hl]; decide)) ?_
        rw [List.nil_append, show l.map (fun a => D.bl (isI a)) = (l.map isI).map D.bl by rw [List.map_map]; rfl, all_bl]
        have : (l.map isI).all id = false := by
          rw [Bool.eq_false_iff]
          intro z
          rw [List.all_map, List.all_eq_true] at z
          exact hi z
        simp only [this, Bool.not_false, if_true]
        refine h _ ⟨(fun z => nomatch z), fun ⟨_, _, _, _, e, _⟩ => absurd ?_ hi⟩
        cases e
        intro a ha
        simp at ha
        rcases ha with e | e | e | e <;> rw [e] <;> rfl
    · rw [fn_is_number_value_eq]; unfold g_is_number_value
      refine ⟨rfl, ?_⟩
      dsimp only [fSeq, fIfS, fRet, fRetN, fDrop, fAsg, fName, fGseq, fGtup, fGcons, fGnil, fVar, fK, f1, f2, fNil, fCons, fTup, fLst, fCall, fCall0, fCallG, fCallK, fCallK0, fRaise, fTry, tryX, fTest, gNot, gAnd, gOr, hAnd, hOr, hNot, fIf, fPar2, fPar3, fSkip, fNever, fBrk, fCnt, fIt, fItT, fItL, fFor, forL, startD, entry, pick, D.isNon,
  DL.lt', DL.le', DL.gt', DL.ge', fSl, fPart, fNo, List.map_cons, List.map_nil, List.length_cons, List.length_nil, List.append_nil, List.nil_append, List.cons_append, List.getElem?_cons_zero, List.getElem?_cons_succ, List.set_cons_zero, List.set_cons_succ, List.replicate_succ, List.replicate_zero, List.filterMap_cons, List.filterMap_nil, Nat.zero_add, Nat.reduceAdd, if_true, if_false, Bool.false_eq_true]
      have : ¬ ((l.length : Int) = 4) := by omega
      simp only [Nat.sub_self, Nat.reduceSub, List.replicate_zero, List.map_cons, List.map_nil, List.cons_append, List.nil_append, List.append_nil, List.getElem?_cons_zero, List.getElem?_cons_succ, List.set_cons_zero, List.set_cons_succ, List.length_cons, List.length_nil, Nat.zero_add, Nat.reduceAdd, Nat.reduceLT, Nat.reduceLeDiff, ev_add_int, ev_add_lst, ev_add_tup, ev_add_str, ev_cat, ev_cmp, ev_sub, ev_mul, ev_div, ev_mod, ev_pow, ev_max2, ev_min2, ev_gcd, ev_neg, ev_abs, ev_int, ev_intb, ev_len_tup, ev_len_lst, ev_tuple_tup, ev_tuple_lst, ev_list_tup, ev_list_lst, ev_rev, ev_rep, ev_ix0t, ev_ix1t, ev_ix2t, ev_ix0l, ev_ix1l, ev_eq_int, ev_eq_str, ev_isn, ev_is2n, ev_is2b, ev_ty_non, ev_ty_bl, ev_ty_int, ev_ty_str, ev_ty_tup, ev_ty_lst, isTy_tuple_tuple, Bool.not_true, Bool.false_eq_true, if_false, Bool.true_xor, this, decide_false, Bool.not_false, if_true]
      exact h _ ⟨(fun z => nomatch z), fun ⟨_, _, _, _, e, _⟩ => absurd (by cases e; rfl) hl⟩
  · rw [fn_is_number_value_eq]; unfold g_is_number_value
    refine ⟨rfl, ?_⟩
    dsimp only [fSeq, fIfS, fRet, fRetN, fDrop, fAsg, fName, fGseq, fGtup, fGcons, fGnil, fVar, fK, f1, f2, fNil, fCons, fTup, fLst, fCall, fCall0, fCallG, fCallK, fCallK0, fRaise, fTry, tryX, fTest, gNot, gAnd, gOr, hAnd, hOr, hNot, fIf, fPar2, fPar3, fSkip, fNever, fBrk, fCnt, fIt, fItT, fItL, fFor, forL, startD, entry, pick, D.isNon,
  DL.lt', DL.le', DL.gt', DL.ge', fSl, fPart, fNo, List.map_cons, List.map_nil, List.length_cons, List.length_nil, List.append_nil, List.nil_append, List.cons_append, List.getElem?_cons_zero, List.getElem?_cons_succ, List.set_cons_zero, List.set_cons_succ, List.replicate_succ, List.replicate_zero, List.filterMap_cons, List.filterMap_nil, Nat.zero_add, Nat.reduceAdd, if_true, if_false, Bool.false_eq_true]
    simp only [Nat.sub_self, Nat.reduceSub, List.replicate_zero, List.map_cons, List.map_nil, List.cons_append, List.nil_append, List.append_nil, List.getElem?_cons_zero, List.getElem?_cons_succ, List.set_cons_zero, List.set_cons_succ, List.length_cons, List.length_nil, Nat.zero_add, Nat.reduceAdd, Nat.reduceLT, Nat.reduceLeDiff, e, Bool.not_false, if_true]
    exact h _ ⟨(fun z => nomatch z), fun z => absurd z hn⟩
theorem is_lean_go (d : Int) (hb : d.natAbs ≤ 10 ^ 12) (h : ∀ b : Bool, (b = true ↔ d ≠ 0 ∧ SF d.natAbs) → q (.bl b)) : fn__law_is_lean [.int d] q x := by
  rw [fn__law_is_lean_eq]; unfold g__law_is_lean
  refine ⟨rfl, ?_⟩
  dsimp only [fSeq, fIfS, fRet, fRetN, fDrop, fAsg, fName, fGseq, fGtup, fGcons, fGnil, fVar, fK, f1, f2, fNil, fCons, fTup, fLst, fCall, fCall0, fCallG, fCallK, fCallK0, fRaise, fTry, tryX, fTest, gNot, gAnd, gOr, hAnd, hOr, hNot, fIf, fPar2, fPar3, fSkip, fNever, fBrk, fCnt, fIt, fItT, fItL, fFor, forL, startD, entry, pick, D.isNon,
  DL.lt', DL.le', DL.gt', DL.ge', fSl, fPart, fNo, List.map_cons, List.map_nil, List.length_cons, List.length_nil, List.append_nil, List.nil_append, List.cons_append, List.getElem?_cons_zero, List.getElem?_cons_succ, List.set_cons_zero, List.set_cons_succ, List.replicate_succ, List.replicate_zero, List.filterMap_cons, List.filterMap_nil, Nat.zero_add, Nat.reduceAdd, if_true, if_false, Bool.false_eq_true]
  refine ⟨show (1 : Nat) < 2 by decide, ?_⟩
  refine fWhile_inv (fun m ρ => ∃ p : Nat, ρ = [some (.int d), some (.int (p : Nat))] ∧ m = 10 ^ 12 + 2 - p ∧ 2 ≤ p ∧ p ≤ 10 ^ 6 + 2 ∧ ∀ t, 2 ≤ t → t < p → ¬ t * t ∣ d.natAbs) (m := 10 ^ 12) ⟨2, rfl, rfl, by decide, by decide, fun t h1 h2 => absurd h1 (by omega)⟩ ?_
  rintro m ρ ⟨p, rfl, hm, p2, p6, hp⟩ nx hn
  dsimp only [fSeq, fIfS, fRet, fRetN, fDrop, fAsg, fName, fGseq, fGtup, fGcons, fGnil, fVar, fK, f1, f2, fNil, fCons, fTup, fLst, fCall, fCall0, fCallG, fCallK, fCallK0, fRaise, fTry, tryX, fTest, gNot, gAnd, gOr, hAnd, hOr, hNot, fIf, fPar2, fPar3, fSkip, fNever, fBrk, fCnt, fIt, fItT, fItL, fFor, forL, startD, entry, pick, D.isNon,
  DL.lt', DL.le', DL.gt', DL.ge', fSl, fPart, fNo, List.map_cons, List.map_nil, List.length_cons, List.length_nil, List.append_nil, List.nil_append, List.cons_append, List.getElem?_cons_zero, List.getElem?_cons_succ, List.set_cons_zero, List.set_cons_succ, List.replicate_succ, List.replicate_zero, List.filterMap_cons, List.filterMap_nil, Nat.zero_add, Nat.reduceAdd, if_true, if_false, Bool.false_eq_true]
  have mo : IntMulOk (p : Int) (p : Int) := mulOk_l (by omega) (by omega)
  simp only [Nat.sub_self, Nat.reduceSub, List.replicate_zero, List.map_cons, List.map_nil, List.cons_append, List.nil_append, List.append_nil, List.getElem?_cons_zero, List.getElem?_cons_succ, List.set_cons_zero, List.set_cons_succ, List.length_cons, List.length_nil, Nat.zero_add, Nat.reduceAdd, Nat.reduceLT, Nat.reduceLeDiff, ev_add_int, ev_add_lst, ev_add_tup, ev_add_str, ev_cat, ev_cmp, ev_sub, ev_mul, ev_div, ev_mod, ev_pow, ev_max2, ev_min2, ev_gcd, ev_neg, ev_abs, ev_int, ev_intb, ev_len_tup, ev_len_lst, ev_tuple_tup, ev_tuple_lst, ev_list_tup, ev_list_lst, ev_rev, ev_rep, ev_ix0t, ev_ix1t, ev_ix2t, ev_ix0l, ev_ix1l, ev_eq_int, ev_eq_str, ev_isn, ev_is2n, ev_is2b, ev_ty_non, ev_ty_bl, ev_ty_int, ev_ty_str, ev_ty_tup, ev_ty_lst, mo, true_and, DL.le', decide_eq_true_eq]
  have ab : absI d = (d.natAbs : Int) := by unfold absI; split <;> omega
  have e0 : ((p * p : Nat) : Int) = (p : Int) * (p : Int) := Int.natCast_mul p p
  by_cases hc : (p : Int) * (p : Int) ≤ absI d
  · rw [if_pos hc]
    rw [ab, ← e0] at hc
    have hc' : p * p ≤ d.natAbs := Int.ofNat_le.mp hc
    have pp : 0 < p * p := Nat.mul_pos (by omega) (by omega)
    have p7 : p ≤ 10 ^ 6 := by
      apply Classical.byContradiction
      intro z
      have := Nat.mul_le_mul (show 10 ^ 6 + 1 ≤ p by omega) (show 10 ^ 6 + 1 ≤ p by omega)
      omega
    refine ⟨by rw [← e0]; omega, ?_⟩
    have dv : d.fmod ((p : Int) * (p : Int)) = 0 ↔ p * p ∣ d.natAbs := by
      rw [← e0, Int.fmod_eq_emod_of_nonneg _ (by omega), ← Int.dvd_iff_emod_eq_zero, ← Int.natAbs_dvd_natAbs]
      rfl
    simp only [Bool.false_xor, decide_eq_true_eq]
    by_cases hd : p * p ∣ d.natAbs
    · rw [if_pos (dv.mpr hd)]
      exact h _ ⟨(fun z => nomatch z), fun z => absurd hd (z.2 p p2)⟩
    · rw [if_neg fun z => hd (dv.mp z)]
      refine hn (10 ^ 12 + 2 - (p + 1)) _ (by omega) ⟨p + 1, by rw [Int.natCast_add]; rfl, rfl, by omega, by omega, fun t h1 h2 => ?_⟩
      by_cases e : t = p
      · rw [e]; exact hd
      · exact hp t h1 (by omega)
  · rw [if_neg hc]
    rw [ab, ← e0] at hc
    have hc' : d.natAbs < p * p := by
      apply Classical.byContradiction
      intro z
      exact hc (Int.ofNat_le.mpr (by omega))
    refine h _ ?_
    by_cases h0 : d = 0
    · rw [h0]
      exact ⟨(fun z => nomatch z), fun z => absurd rfl z.1⟩
    · rw [decide_eq_false h0]
      exact ⟨fun _ => ⟨h0, SF.small (by omega) hc' fun t h1 h2 => hp t h2 h1⟩, fun _ => rfl⟩
/-- the law's own look -/
theorem law_number_ints (p r s d : Int) (h : ∀ b : Bool, (b = true ↔ NumI p r s d) → q (.bl b)) : fn__law_is_number [.tup [.int p, .int r, .int s, .int d]] q x := by
  rw [fn__law_is_number_eq]; unfold g__law_is_number
  refine ⟨rfl, ?_⟩
  dsimp only [fSeq, fIfS, fRet, fRetN, fDrop, fAsg, fName, fGseq, fGtup, fGcons, fGnil, fVar, fK, f1, f2, fNil, fCons, fTup, fLst, fCall, fCall0, fCallG, fCallK, fCallK0, fRaise, fTry, tryX, fTest, gNot, gAnd, gOr, hAnd, hOr, hNot, fIf, fPar2, fPar3, fSkip, fNever, fBrk, fCnt, fIt, fItT, fItL, fFor, forL, startD, entry, pick, D.isNon,
  DL.lt', DL.le', DL.gt', DL.ge', fSl, fPart, fNo, List.map_cons, List.map_nil, List.length_cons, List.length_nil, List.append_nil, List.nil_append, List.cons_append, List.getElem?_cons_zero, List.getElem?_cons_succ, List.set_cons_zero, List.set_cons_succ, List.replicate_succ, List.replicate_zero, List.filterMap_cons, List.filterMap_nil, Nat.zero_add, Nat.reduceAdd, if_true, if_false, Bool.false_eq_true]
  simp only [Nat.sub_self, Nat.reduceSub, List.replicate_zero, List.map_cons, List.map_nil, List.cons_append, List.nil_append, List.append_nil, List.getElem?_cons_zero, List.getElem?_cons_succ, List.set_cons_zero, List.set_cons_succ, List.length_cons, List.length_nil, Nat.zero_add, Nat.reduceAdd, Nat.reduceLT, Nat.reduceLeDiff, ev_add_int, ev_add_lst, ev_add_tup, ev_add_str, ev_cat, ev_cmp, ev_sub, ev_mul, ev_div, ev_mod, ev_pow, ev_max2, ev_min2, ev_gcd, ev_neg, ev_abs, ev_int, ev_intb, ev_len_tup, ev_len_lst, ev_tuple_tup, ev_tuple_lst, ev_list_tup, ev_list_lst, ev_rev, ev_rep, ev_ix0t, ev_ix1t, ev_ix2t, ev_ix0l, ev_ix1l, ev_eq_int, ev_eq_str, ev_isn, ev_is2n, ev_is2b, ev_ty_non, ev_ty_bl, ev_ty_int, ev_ty_str, ev_ty_tup, ev_ty_lst, isTy_tuple_tuple, Bool.not_true, Bool.false_eq_true, if_false, Bool.true_xor, show ((4 : Nat) : Int) = 4 from rfl, decide_true]
  refine lc_filter (fun a => !isI a) (fun _ => .int 1) _ [] (fun a ha nx hx => ?_) (by simp [LN]) ?_
  · have : ∃ i : Int, a = .int i := by simp at ha; rcases ha with e | e | e | e <;> exact ⟨_, e⟩
    obtain ⟨i, rfl⟩ := this
    exact ⟨show (1 : Nat) < 6 by decide, is_integer_int _ _ i (hx _ fun q' h' => h')⟩
  · refine ⟨LNle (by decide), ?_⟩
    show sEq true (.lst []) (.lst []) _ _
    rw [eq_lst_nil _ _ _ _ rfl (by decide)]
    simp only [decide_true, Bool.true_xor, Bool.not_true, Bool.false_eq_true, if_false, true_and, DL.lt', decide_eq_true_eq]
    by_cases h1 : s < 1
    · simp only [h1, if_true]
      exact h _ ⟨(fun z => nomatch z), fun z => absurd z.1 (by omega)⟩
    simp only [h1, if_false]
    refine common _ _ _ _ (common _ _ _ _ ?_)
    simp only [ev_eq_int]
    by_cases h2 : gcdI (gcdI p r) s = 1
    · simp only [h2, decide_true, Bool.true_xor, Bool.not_true, Bool.false_eq_true, if_false, Bool.false_xor, decide_eq_true_eq]
      by_cases hr : r = 0
      · simp only [hr, if_true]
        exact h _ (by rw [decide_eq_true_eq, numI_root hr]; exact ⟨fun z => ⟨by omega, h2, z⟩, fun z => z.2.2⟩)
      · simp only [hr, if_false]
        by_cases hd : d = 1
        · simp only [hd, decide_true, Bool.not_true, Bool.false_eq_true, if_false]
          exact h _ ⟨(fun z => nomatch z), fun z => absurd hd ((numI_sq hr).mp z).2.2.1⟩
        · simp only [hd, decide_false, Bool.not_false, if_true]
          have ea : absI d = ((d.natAbs : Nat) : Int) := by unfold absI; split <;> omega
          have e12 : (10 : Int) ^ (12 : Int).toNat = 1000000000000 := by decide
          refine ⟨⟨by decide, by decide, by decide⟩, ?_⟩
          simp only [DL.le', ea, e12, decide_eq_true_eq]
          by_cases h3 : ((d.natAbs : Nat) : Int) ≤ 1000000000000
          · rw [if_pos h3]
            refine is_lean_go _ _ d (by omega) fun b hb => h b ?_
            rw [hb, numI_sq hr]
            exact ⟨fun z => ⟨by omega, h2, hd, z.1, by omega, z.2⟩, fun z => ⟨z.2.2.2.1, z.2.2.2.2.2⟩⟩
          · rw [if_neg h3]
            exact h _ ⟨(fun z => nomatch z), fun z => absurd ((numI_sq hr).mp z).2.2.2.2.1 (by omega)⟩
    · simp only [h2, decide_false, Bool.true_xor, Bool.not_false, if_true]
      exact h _ ⟨(fun z => nomatch z), fun z => absurd z.2.1 h2⟩
theorem law_number_any (a : D) (ha : a.okR = true) (h : ∀ b : Bool, (b = true ↔ NumB a) → q (.bl b)) : fn__law_is_number [a] q x := by
  rcases tup_or a ha with ⟨l, rfl⟩ | ⟨e, hn⟩
  · by_cases hl : l.length = 4
    · by_cases hi : ∀ a ∈ l, isI a = true
      · match l, hl, hi with
        | [a, b, c, d], _, hi =>
          obtain ⟨p, rfl⟩ := isI_int (hi a (by simp))
          obtain ⟨r, rfl⟩ := isI_int (hi b (by simp))
          obtain ⟨s, rfl⟩ := isI_int (hi c (by simp))
          obtain ⟨d, rfl⟩ := isI_int (hi d (by simp))
          exact law_number_ints q x p r s d fun b hb => h b (hb.trans ⟨fun z => ⟨_, _, _, _, rfl, z⟩, fun ⟨_, _, _, _, e, z⟩ => by
            injection e with e
            injection e with e1 e
            injection e with e2 e
            injection e with e3 e
            injection e with e4 e
            injection e1 with e1
            injection e2 with e2
            injection e3 with e3
            injection e4 with e4
            rw [e1, e2, e3, e4]; exact z⟩)
      · rw [fn__law_is_number_eq]; unfold g__law_is_number
        refine ⟨rfl, ?_⟩
        dsimp only [fSeq, fIfS, fRet, fRetN, fDrop, fAsg, fName, fGseq, fGtup, fGcons, fGnil, fVar, fK, f1, f2, fNil, fCons, fTup, fLst, fCall, fCall0, fCallG, fCallK, fCallK0, fRaise, fTry, tryX, fTest, gNot, gAnd, gOr, hAnd, hOr, hNot, fIf, fPar2, fPar3, fSkip, fNever, fBrk, fCnt, fIt, fItT, fItL, fFor, forL, startD, entry, pick, D.isNon,
  DL.lt', DL.le', DL.gt', DL.ge', fSl, fPart, fNo, List.map_cons, List.map_nil, List.length_cons, List.length_nil, List.append_nil, List.nil_append, List.cons_append, List.getElem?_cons_zero, List.getElem?_cons_succ, List.set_cons_zero, List.set_cons_succ, List.replicate_succ, List.replicate_zero, List.filterMap_cons, List.filterMap_nil, Nat.zero_add, Nat.reduceAdd, if_true, if_false, Bool.false_eq_true]
        simp only [Nat.sub_self, Nat.reduceSub, List.replicate_zero, List.map_cons, List.map_nil, List.cons_append, List.nil_append, List.append_nil, List.getElem?_cons_zero, List.getElem?_cons_succ, List.set_cons_zero, List.set_cons_succ, List.length_cons, List.length_nil, Nat.zero_add, Nat.reduceAdd, Nat.reduceLT, Nat.reduceLeDiff, ev_add_int, ev_add_lst, ev_add_tup, ev_add_str, ev_cat, ev_cmp, ev_sub, ev_mul, ev_div, ev_mod, ev_pow, ev_max2, ev_min2, ev_gcd, ev_neg, ev_abs, ev_int, ev_intb, ev_len_tup, ev_len_lst, ev_tuple_tup, ev_tuple_lst, ev_list_tup, ev_list_lst, ev_rev, ev_rep, ev_ix0t, ev_ix1t, ev_ix2t, ev_ix0l, ev_ix1l, ev_eq_int, ev_eq_str, ev_isn, ev_is2n, ev_is2b, ev_ty_non, ev_ty_bl, ev_ty_int, ev_ty_str, ev_ty_tup, ev_ty_lst, isTy_tuple_tuple, Bool.not_true, Bool.false_eq_true, if_false, Bool.true_xor, hl, show ((4 : Nat) : Int) = 4 from rfl, decide_true]
        show lcL _ _ _ _ _ _ _ l []
        refine lc_filter (fun a => !isI a) (fun _ => .int 1) _ [] (fun a h' nx hx => ⟨show (1 : Nat) < 6 by decide, is_integer_any _ _ a (okR_mem ha a h') (hx _ fun q' hq => hq)⟩) (LNle (by rw [hl]; decide)) ?_
        refine ⟨LNle (by decide), ?_⟩
        rw [List.nil_append, eq_lst_nil _ _ _ _ (ones_ok _).1 (Nat.le_trans (Nat.add_le_add_right (ones_ok _).2 1) (by decide))]
        have : ¬ ((l.filter fun a => !isI a).map fun _ => D.int 1) = [] := fun z => by
          rw [List.map_eq_nil_iff, List.filter_eq_nil_iff] at z
          exact hi fun a ha => by simpa using z a ha
        simp only [this, decide_false, Bool.true_xor, Bool.not_false, if_true]
        refine h _ ⟨(fun z => nomatch z), fun ⟨_, _, _, _, e, _⟩ => absurd ?_ hi⟩
        cases e
        intro a ha
        simp at ha
        rcases ha with e | e | e | e <;> rw [e] <;> rfl
    · rw [fn__law_is_number_eq]; unfold g__law_is_number
      refine ⟨rfl, ?_⟩
      dsimp only [fSeq, fIfS, fRet, fRetN, fDrop, fAsg, fName, fGseq, fGtup, fGcons, fGnil, fVar, fK, f1, f2, fNil, fCons, fTup, fLst, fCall, fCall0, fCallG, fCallK, fCallK0, fRaise, fTry, tryX, fTest, gNot, gAnd, gOr, hAnd, hOr, hNot, fIf, fPar2, fPar3, fSkip, fNever, fBrk, fCnt, fIt, fItT, fItL, fFor, forL, startD, entry, pick, D.isNon,
  DL.lt', DL.le', DL.gt', DL.ge', fSl, fPart, fNo, List.map_cons, List.map_nil, List.length_cons, List.length_nil, List.append_nil, List.nil_append, List.cons_append, List.getElem?_cons_zero, List.getElem?_cons_succ, List.set_cons_zero, List.set_cons_succ, List.replicate_succ, List.replicate_zero, List.filterMap_cons, List.filterMap_nil, Nat.zero_add, Nat.reduceAdd, if_true, if_false, Bool.false_eq_true]
      have : ¬ ((l.length : Int) = 4) := by omega
      simp only [Nat.sub_self, Nat.reduceSub, List.replicate_zero, List.map_cons, List.map_nil, List.cons_append, List.nil_append, List.append_nil, List.getElem?_cons_zero, List.getElem?_cons_succ, List.set_cons_zero, List.set_cons_succ, List.length_cons, List.length_nil, Nat.zero_add, Nat.reduceAdd, Nat.reduceLT, Nat.reduceLeDiff, ev_add_int, ev_add_lst, ev_add_tup, ev_add_str, ev_cat, ev_cmp, ev_sub, ev_mul, ev_div, ev_mod, ev_pow, ev_max2, ev_min2, ev_gcd, ev_neg, ev_abs, ev_int, ev_intb, ev_len_tup, ev_len_lst, ev_tuple_tup, ev_tuple_lst, ev_list_tup, ev_list_lst, ev_rev, ev_rep, ev_ix0t, ev_ix1t, ev_ix2t, ev_ix0l, ev_ix1l, ev_eq_int, ev_eq_str, ev_isn, ev_is2n, ev_is2b, ev_ty_non, ev_ty_bl, ev_ty_int, ev_ty_str, ev_ty_tup, ev_ty_lst, isTy_tuple_tuple, Bool.not_true, Bool.false_eq_true, if_false, Bool.true_xor, this, decide_false, Bool.not_false, if_true]
      exact h _ ⟨(fun z => nomatch z), fun ⟨_, _, _, _, e, _⟩ => absurd (by cases e; rfl) hl⟩
  · rw [fn__law_is_number_eq]; unfold g__law_is_number
    refine ⟨rfl, ?_⟩
    dsimp only [fSeq, fIfS, fRet, fRetN, fDrop, fAsg, fName, fGseq, fGtup, fGcons, fGnil, fVar, fK, f1, f2, fNil, fCons, fTup, fLst, fCall, fCall0, fCallG, fCallK, fCallK0, fRaise, fTry, tryX, fTest, gNot, gAnd, gOr, hAnd, hOr, hNot, fIf, fPar2, fPar3, fSkip, fNever, fBrk, fCnt, fIt, fItT, fItL, fFor, forL, startD, entry, pick, D.isNon,
  DL.lt', DL.le', DL.gt', DL.ge', fSl, fPart, fNo, List.map_cons, List.map_nil, List.length_cons, List.length_nil, List.append_nil, List.nil_append, List.cons_append, List.getElem?_cons_zero, List.getElem?_cons_succ, List.set_cons_zero, List.set_cons_succ, List.replicate_succ, List.replicate_zero, List.filterMap_cons, List.filterMap_nil, Nat.zero_add, Nat.reduceAdd, if_true, if_false, Bool.false_eq_true]
    simp only [Nat.sub_self, Nat.reduceSub, List.replicate_zero, List.map_cons, List.map_nil, List.cons_append, List.nil_append, List.append_nil, List.getElem?_cons_zero, List.getElem?_cons_succ, List.set_cons_zero, List.set_cons_succ, List.length_cons, List.length_nil, Nat.zero_add, Nat.reduceAdd, Nat.reduceLT, Nat.reduceLeDiff, e, Bool.not_false, if_true]
    exact h _ ⟨(fun z => nomatch z), fun z => absurd z hn⟩
end

section
variable (q : D → Prop) (x : XD)
theorem Rq.sf {d : Int} (h1 : d ≠ 1) (h0 : d ≠ 0) (hs : d.natAbs ≤ 10 ^ 12) (h : SF d.natAbs) : Rq d := ⟨Rt.of h1 h0 hs h, Nsq.of h1 h0 h, Nat.le_trans hs (by decide)⟩
theorem Rq.two : Rq 2 := Rq.sf (by decide) (by decide) (by decide) (SF.small (B := 2) (by decide) (by decide) (by decide))
theorem canon_made (c : Int) {p r s : Int} (h1 : 1 ≤ s) (h2 : gcdI (gcdI p r) s = 1) : Canon (⟨(p : Rat) / s, (r : Rat) / s⟩ : El c) p r s := by
  have hs : ((s : Int) : Rat) ≠ 0 := rcast_ne (by omega)
  exact ⟨by omega, h2, by show (p : Rat) = (p : Rat) / s * s; grind, by show (r : Rat) = (r : Rat) / s * s; grind⟩
theorem sx_made {c : Int} {p r s : Int} {e : El c} (h : Canon e p r s) (hp : p.natAbs ≤ 10 ^ 40) (hr : r.natAbs ≤ 10 ^ 40) (hs : s.natAbs ≤ 10 ^ 40) (hc : c.natAbs ≤ 10 ^ 12) : Sx e 180 := by
  refine Sx.of_canon h (Nat.le_trans hs (by decide)) ?_
  have := Nat.mul_le_mul hr hc
  have : (10 : Nat) ^ 40 + 10 ^ 40 * 10 ^ 12 ≤ 2 ^ 180 := by decide
  omega
/-- two numbers: of one root, or not -/
theorem pair {p r s d p' r' s' d' : Int} (h : NumI p r s d) (h' : NumI p' r' s' d') (hs : ∀ i ∈ [p, r, s, p', r', s'], i.natAbs ≤ 10 ^ 40) :
    (∃ c, Rq c ∧ c.natAbs ≤ 10 ^ 12 ∧ ∃ e f : El c, D.tup [.int p, .int r, .int s, .int d] = nd e ∧ D.tup [.int p', .int r', .int s', .int d'] = nd f ∧ Sx e 180 ∧ Sx f 180) ∨ (r ≠ 0 ∧ r' ≠ 0 ∧ d ≠ d') := by
  have fin : ∀ c : Int, Rq c → c.natAbs ≤ 10 ^ 12 → (r ≠ 0 → d = c) → (r' ≠ 0 → d' = c) → (∃ c, Rq c ∧ c.natAbs ≤ 10 ^ 12 ∧ ∃ e f : El c, D.tup [.int p, .int r, .int s, .int d] = nd e ∧ D.tup [.int p', .int r', .int s', .int d'] = nd f ∧ Sx e 180 ∧ Sx f 180) := fun c rq hc e1 e2 => by
    have c1 := canon_made c h.1 h.2.1
    have c2 := canon_made c h'.1 h'.2.1
    refine ⟨c, rq, hc, _, _, ?_, ?_, sx_made c1 (hs _ (by simp)) (hs _ (by simp)) (hs _ (by simp)) hc, sx_made c2 (hs _ (by simp)) (hs _ (by simp)) (hs _ (by simp)) hc⟩
    · rw [nd_of c1]
      by_cases z : r = 0
      · rw [if_pos z, ((numI_root z).mp h).2.2]
      · rw [if_neg z, e1 z]
    · rw [nd_of c2]
      by_cases z : r' = 0
      · rw [if_pos z, ((numI_root z).mp h').2.2]
      · rw [if_neg z, e2 z]
  by_cases z : r = 0
  · by_cases z' : r' = 0
    · exact .inl (fin 2 Rq.two (by decide) (fun w => absurd z w) (fun w => absurd z' w))
    · obtain ⟨_, _, h3, h4, h5, h6⟩ := (numI_sq z').mp h'
      exact .inl (fin d' (Rq.sf h3 h4 h5 h6) h5 (fun w => absurd z w) (fun _ => rfl))
  · obtain ⟨_, _, h3, h4, h5, h6⟩ := (numI_sq z).mp h
    by_cases z' : r' = 0
    · exact .inl (fin d (Rq.sf h3 h4 h5 h6) h5 (fun _ => rfl) (fun w => absurd z' w))
    · by_cases e : d = d'
      · exact .inl (fin d (Rq.sf h3 h4 h5 h6) h5 (fun _ => rfl) (fun _ => e.symm))
      · exact .inr ⟨z, z', e⟩
theorem apart_go {p r s d p' r' s' d' : Int} (h1 : r ≠ 0) (h2 : r' ≠ 0) (h3 : d ≠ d') (h : q (.bl false)) : fn_do_go_together [.tup [.int p, .int r, .int s, .int d], .tup [.int p', .int r', .int s', .int d']] q x := by
  rw [fn_do_go_together_eq]; unfold g_do_go_together
  refine ⟨rfl, ?_⟩
  dsimp only [fSeq, fIfS, fRet, fRetN, fDrop, fAsg, fName, fGseq, fGtup, fGcons, fGnil, fVar, fK, f1, f2, fNil, fCons, fTup, fLst, fCall, fCall0, fCallG, fCallK, fCallK0, fRaise, fTry, tryX, fTest, gNot, gAnd, gOr, hAnd, hOr, hNot, fIf, fPar2, fPar3, fSkip, fNever, fBrk, fCnt, fIt, fItT, fItL, fFor, forL, startD, entry, pick, D.isNon,
  DL.lt', DL.le', DL.gt', DL.ge', fSl, fPart, fNo, List.map_cons, List.map_nil, List.length_cons, List.length_nil, List.append_nil, List.nil_append, List.cons_append, List.getElem?_cons_zero, List.getElem?_cons_succ, List.set_cons_zero, List.set_cons_succ, List.replicate_succ, List.replicate_zero, List.filterMap_cons, List.filterMap_nil, Nat.zero_add, Nat.reduceAdd, if_true, if_false, Bool.false_eq_true]
  simp only [Nat.sub_self, Nat.reduceSub, List.replicate_zero, List.map_cons, List.map_nil, List.cons_append, List.nil_append, List.append_nil, List.getElem?_cons_zero, List.getElem?_cons_succ, List.set_cons_zero, List.set_cons_succ, List.length_cons, List.length_nil, Nat.zero_add, Nat.reduceAdd, Nat.reduceLT, Nat.reduceLeDiff, ev_add_int, ev_add_lst, ev_add_tup, ev_add_str, ev_cat, ev_cmp, ev_sub, ev_mul, ev_div, ev_mod, ev_pow, ev_max2, ev_min2, ev_gcd, ev_neg, ev_abs, ev_int, ev_intb, ev_len_tup, ev_len_lst, ev_tuple_tup, ev_tuple_lst, ev_list_tup, ev_list_lst, ev_rev, ev_rep, ev_ix0t, ev_ix1t, ev_ix2t, ev_ix0l, ev_ix1l, ev_eq_int, ev_eq_str, ev_isn, ev_is2n, ev_is2b, ev_ty_non, ev_ty_bl, ev_ty_int, ev_ty_str, ev_ty_tup, ev_ty_lst, ev_ix3t, Bool.false_xor, h1, h2, h3, decide_false, Bool.false_eq_true, if_false]
  exact h
/-- what must be of two values -/
theorem need_any (a : D) (ha : a.okR = true) (h : NumB a → q .non) (hx : ¬ NumB a → x "BadNumber" a) : fn_need_number [a] q x := by
  rw [fn_need_number_eq]; unfold g_need_number
  refine ⟨rfl, ?_⟩
  dsimp only [fSeq, fIfS, fRet, fRetN, fDrop, fAsg, fName, fGseq, fGtup, fGcons, fGnil, fVar, fK, f1, f2, fNil, fCons, fTup, fLst, fCall, fCall0, fCallG, fCallK, fCallK0, fRaise, fTry, tryX, fTest, gNot, gAnd, gOr, hAnd, hOr, hNot, fIf, fPar2, fPar3, fSkip, fNever, fBrk, fCnt, fIt, fItT, fItL, fFor, forL, startD, entry, pick, D.isNon,
  DL.lt', DL.le', DL.gt', DL.ge', fSl, fPart, fNo, List.map_cons, List.map_nil, List.length_cons, List.length_nil, List.append_nil, List.nil_append, List.cons_append, List.getElem?_cons_zero, List.getElem?_cons_succ, List.set_cons_zero, List.set_cons_succ, List.replicate_succ, List.replicate_zero, List.filterMap_cons, List.filterMap_nil, Nat.zero_add, Nat.reduceAdd, if_true, if_false, Bool.false_eq_true]
  refine number_value_any _ _ a ha fun b hb => ?_
  cases b with
  | true =>
    simp only [Bool.not_true, Bool.false_eq_true, if_false]
    exact ⟨by first | trivial | rfl, h (hb.mp rfl)⟩
  | false =>
    simp only [Bool.not_false, if_true]
    exact hx fun z => nomatch hb.mpr z
theorem need_two_any (a b : D) (ha : a.okR = true) (hb : b.okR = true) (h : NumB a → NumB b → q .non) (hx : ¬ NumB a → x "BadNumber" a) (hx' : NumB a → ¬ NumB b → x "BadNumber" b) : fn_need_two [a, b] q x := by
  rw [fn_need_two_eq]; unfold g_need_two
  refine ⟨rfl, ?_⟩
  dsimp only [fSeq, fIfS, fRet, fRetN, fDrop, fAsg, fName, fGseq, fGtup, fGcons, fGnil, fVar, fK, f1, f2, fNil, fCons, fTup, fLst, fCall, fCall0, fCallG, fCallK, fCallK0, fRaise, fTry, tryX, fTest, gNot, gAnd, gOr, hAnd, hOr, hNot, fIf, fPar2, fPar3, fSkip, fNever, fBrk, fCnt, fIt, fItT, fItL, fFor, forL, startD, entry, pick, D.isNon,
  DL.lt', DL.le', DL.gt', DL.ge', fSl, fPart, fNo, List.map_cons, List.map_nil, List.length_cons, List.length_nil, List.append_nil, List.nil_append, List.cons_append, List.getElem?_cons_zero, List.getElem?_cons_succ, List.set_cons_zero, List.set_cons_succ, List.replicate_succ, List.replicate_zero, List.filterMap_cons, List.filterMap_nil, Nat.zero_add, Nat.reduceAdd, if_true, if_false, Bool.false_eq_true]
  refine need_any _ _ a ha (fun h1 => ?_) hx
  refine need_any _ _ b hb (fun h2 => ?_) (hx' h1)
  exact ⟨by first | rfl | trivial, h h1 h2⟩
theorem need_apart {p r s d p' r' s' d' : Int} (h1 : r ≠ 0) (h2 : r' ≠ 0) (h3 : d ≠ d') (h : x "OtherRoot" (.tup [.int p', .int r', .int s', .int d'])) : fn_need_together [.tup [.int p, .int r, .int s, .int d], .tup [.int p', .int r', .int s', .int d']] q x := by
  rw [fn_need_together_eq]; unfold g_need_together
  refine ⟨rfl, ?_⟩
  dsimp only [fSeq, fIfS, fRet, fRetN, fDrop, fAsg, fName, fGseq, fGtup, fGcons, fGnil, fVar, fK, f1, f2, fNil, fCons, fTup, fLst, fCall, fCall0, fCallG, fCallK, fCallK0, fRaise, fTry, tryX, fTest, gNot, gAnd, gOr, hAnd, hOr, hNot, fIf, fPar2, fPar3, fSkip, fNever, fBrk, fCnt, fIt, fItT, fItL, fFor, forL, startD, entry, pick, D.isNon,
  DL.lt', DL.le', DL.gt', DL.ge', fSl, fPart, fNo, List.map_cons, List.map_nil, List.length_cons, List.length_nil, List.append_nil, List.nil_append, List.cons_append, List.getElem?_cons_zero, List.getElem?_cons_succ, List.set_cons_zero, List.set_cons_succ, List.replicate_succ, List.replicate_zero, List.filterMap_cons, List.filterMap_nil, Nat.zero_add, Nat.reduceAdd, if_true, if_false, Bool.false_eq_true]
  refine apart_go _ _ h1 h2 h3 ?_
  simp only [Bool.not_false, if_true]
  exact h
/-! ### the four deeds -/
theorem ok_tup4 (p r s d : Int) : (D.tup [.int p, .int r, .int s, .int d]).okR = true := rfl
theorem eq_nil4 (p r s d : Int) (hr : r ≠ 0) : sEq false (.tup [.int p, .int r, .int s, .int d]) c_NIL q x = q (.bl false) := by
  have e : eqD (.tup [.int p, .int r, .int s, .int d]) c_NIL = false := by
    rw [eqD_4]
    exact decide_eq_false fun z => hr z.2.1
  show (_ ∧ _ ∧ _ ∧ _ ∧ _) = _
  rw [e]
  exact propext ⟨fun h => h.2.2.2.2, fun h => ⟨rfl, rfl, by show 1 ≤ 64; decide, by decide, h⟩⟩
abbrev Op := Fn
/-- what is raised, by any of them -/
def Raises (f : Fn) : Prop := ∀ (a b : D) (q : D → Prop) (x : XD), a.okR = true → b.okR = true →
  (¬ NumB a → x "BadNumber" a → f [a, b] q x) ∧ (NumB a → ¬ NumB b → x "BadNumber" b → f [a, b] q x) ∧
  (∀ p r s d p' r' s' d' : Int, a = .tup [.int p, .int r, .int s, .int d] → b = .tup [.int p', .int r', .int s', .int d'] → NumI p r s d → NumI p' r' s' d' → r ≠ 0 → r' ≠ 0 → d ≠ d' → x "OtherRoot" b → f [a, b] q x)
theorem times_r : Raises fn_times := fun a b q x ha hb => by
  rw [fn_times_eq]; unfold g_times
  refine ⟨fun h1 hx => ⟨rfl, ?_⟩, fun h1 h2 hx => ⟨rfl, ?_⟩, fun p r s d p' r' s' d' e1 e2 h1 h2 h3 h4 h5 hx => ⟨rfl, ?_⟩⟩
  · dsimp only [fSeq, fIfS, fRet, fRetN, fDrop, fAsg, fName, fGseq, fGtup, fGcons, fGnil, fVar, fK, f1, f2, fNil, fCons, fTup, fLst, fCall, fCall0, fCallG, fCallK, fCallK0, fRaise, fTry, tryX, fTest, gNot, gAnd, gOr, hAnd, hOr, hNot, fIf, fPar2, fPar3, fSkip, fNever, fBrk, fCnt, fIt, fItT, fItL, fFor, forL, startD, entry, pick, D.isNon,
  DL.lt', DL.le', DL.gt', DL.ge', fSl, fPart, fNo, List.map_cons, List.map_nil, List.length_cons, List.length_nil, List.append_nil, List.nil_append, List.cons_append, List.getElem?_cons_zero, List.getElem?_cons_succ, List.set_cons_zero, List.set_cons_succ, List.replicate_succ, List.replicate_zero, List.filterMap_cons, List.filterMap_nil, Nat.zero_add, Nat.reduceAdd, if_true, if_false, Bool.false_eq_true]
    exact need_two_any _ _ a b ha hb (fun z => absurd z h1) (fun _ => hx) fun z => absurd z h1
  · dsimp only [fSeq, fIfS, fRet, fRetN, fDrop, fAsg, fName, fGseq, fGtup, fGcons, fGnil, fVar, fK, f1, f2, fNil, fCons, fTup, fLst, fCall, fCall0, fCallG, fCallK, fCallK0, fRaise, fTry, tryX, fTest, gNot, gAnd, gOr, hAnd, hOr, hNot, fIf, fPar2, fPar3, fSkip, fNever, fBrk, fCnt, fIt, fItT, fItL, fFor, forL, startD, entry, pick, D.isNon,
  DL.lt', DL.le', DL.gt', DL.ge', fSl, fPart, fNo, List.map_cons, List.map_nil, List.length_cons, List.length_nil, List.append_nil, List.nil_append, List.cons_append, List.getElem?_cons_zero, List.getElem?_cons_succ, List.set_cons_zero, List.set_cons_succ, List.replicate_succ, List.replicate_zero, List.filterMap_cons, List.filterMap_nil, Nat.zero_add, Nat.reduceAdd, if_true, if_false, Bool.false_eq_true]
    exact need_two_any _ _ a b ha hb (fun _ z => absurd z h2) (fun z => absurd h1 z) fun _ _ => hx
  · subst e1 e2
    dsimp only [fSeq, fIfS, fRet, fRetN, fDrop, fAsg, fName, fGseq, fGtup, fGcons, fGnil, fVar, fK, f1, f2, fNil, fCons, fTup, fLst, fCall, fCall0, fCallG, fCallK, fCallK0, fRaise, fTry, tryX, fTest, gNot, gAnd, gOr, hAnd, hOr, hNot, fIf, fPar2, fPar3, fSkip, fNever, fBrk, fCnt, fIt, fItT, fItL, fFor, forL, startD, entry, pick, D.isNon,
  DL.lt', DL.le', DL.gt', DL.ge', fSl, fPart, fNo, List.map_cons, List.map_nil, List.length_cons, List.length_nil, List.append_nil, List.nil_append, List.cons_append, List.getElem?_cons_zero, List.getElem?_cons_succ, List.set_cons_zero, List.set_cons_succ, List.replicate_succ, List.replicate_zero, List.filterMap_cons, List.filterMap_nil, Nat.zero_add, Nat.reduceAdd, if_true, if_false, Bool.false_eq_true]
    exact need_two_any _ _ _ _ ha hb (fun _ _ => need_apart _ _ h3 h4 h5 hx) (fun z => absurd ⟨_, _, _, _, rfl, h1⟩ z) fun _ z => absurd ⟨_, _, _, _, rfl, h2⟩ z
end

end K01

set_option exponentiation.threshold 10000
namespace K01
open PySem PySem.Spec PyProof.Rows L2 DL DN
section
variable (q : D → Prop) (x : XD)
theorem fmod_sq (z : Int) (p : Nat) : z.fmod ((p : Int) * (p : Int)) = 0 ↔ p * p ∣ z.natAbs := by
  have e0 : ((p * p : Nat) : Int) = (p : Int) * (p : Int) := Int.natCast_mul p p
  rw [← e0, Int.fmod_eq_emod_of_nonneg _ (by omega), ← Int.dvd_iff_emod_eq_zero, ← Int.natAbs_dvd_natAbs]
  rfl
theorem absI_nat (z : Int) : absI z = (z.natAbs : Int) := by unfold absI; split <;> omega
/-- the law's own parts of an integer -/
theorem parted_go (d : Int) (h0 : d ≠ 0) (hb : d.natAbs < 2 ^ 3000) (h : ∀ (l : Int) (w : Nat), 1 ≤ w → d = l * ((w * w : Nat) : Int) → SF l.natAbs → q (.tup [.int l, .int (w : Nat)])) : fn__law_parted [.int d] q x := by
  rw [fn__law_parted_eq]; unfold g__law_parted
  refine ⟨rfl, ?_⟩
  have up : ∀ {i : Int}, i.natAbs ≤ d.natAbs + 2 → i.natAbs < 2 ^ 9000 := fun hi => by
    have : (2 : Nat) ^ 3000 + 2 ≤ 2 ^ 9000 := Nat.le_trans (show 2 ^ 3000 + 2 ≤ 2 ^ 3001 by decide) (Nat.pow_le_pow_right (by decide) (by decide))
    omega
  obtain ⟨E, hE⟩ : ∃ E, E = entry false q x := ⟨_, rfl⟩
  have e1 : E.rt = q := by rw [hE]
  have e2 : E.x = x := by rw [hE]
  rw [← hE]
  clear hE
  refine fSeq_split fun R hR => ?_
  simp only [fPar3, fSeq, fIfS, fRet, fRetN, fDrop, fAsg, fName, fGseq, fGtup, fGcons, fGnil, fVar, fK, f1, f2, fNil, fCons, fTup, fLst, fCall, fCall0, fCallG, fCallK, fCallK0, fRaise, fTry, tryX, fTest, gNot, gAnd, gOr, hAnd, hOr, hNot, fIf, fPar2, fPar3, fSkip, fNever, fBrk, fCnt, fIt, fItT, fItL, fFor, forL, startD, entry, pick, D.isNon,
  DL.lt', DL.le', DL.gt', DL.ge', fSl, fPart, fNo, List.map_cons, List.map_nil, List.length_cons, List.length_nil, List.append_nil, List.nil_append, List.cons_append, List.getElem?_cons_zero, List.getElem?_cons_succ, List.set_cons_zero, List.set_cons_succ, List.replicate_succ, List.replicate_zero, List.filterMap_cons, List.filterMap_nil, Nat.zero_add, Nat.reduceAdd, if_true, if_false, Bool.false_eq_true, Nat.sub_self, Nat.reduceSub, List.replicate_zero, List.map_cons, List.map_nil, List.cons_append, List.nil_append, List.append_nil, List.getElem?_cons_zero, List.getElem?_cons_succ, List.set_cons_zero, List.set_cons_succ, List.length_cons, List.length_nil, Nat.zero_add, Nat.reduceAdd, Nat.reduceLT, Nat.reduceLeDiff]
  refine ⟨trivial, trivial, trivial, ?_⟩
  rw [hR]; clear hR R
  refine fSeq_split fun R hR => ?_
  have facts : ∀ (z : Int) (w : Nat), 1 ≤ w → d = z * ((w * w : Nat) : Int) → z ≠ 0 ∧ 1 ≤ z.natAbs ∧ z.natAbs ≤ d.natAbs ∧ w * w ≤ d.natAbs ∧ w ≤ d.natAbs := fun z w hw e => by
    have hz : z ≠ 0 := fun z0 => h0 (by rw [e, z0, Int.zero_mul])
    have hz1 : 1 ≤ z.natAbs := by omega
    have ea : d.natAbs = z.natAbs * (w * w) := by rw [e, Int.natAbs_mul]; rfl
    have ww : w ≤ w * w := Nat.le_mul_of_pos_right w hw
    have : z.natAbs ≤ z.natAbs * (w * w) := Nat.le_mul_of_pos_right _ (Nat.mul_pos hw hw)
    have : w * w ≤ z.natAbs * (w * w) := Nat.le_mul_of_pos_left _ hz1
    exact ⟨hz, hz1, by omega, by omega, by omega⟩
  refine fWhile_inv (fun m ρ => ∃ (z : Int) (w p : Nat), ρ = [some (.int d), some (.int z), some (.int (w : Nat)), some (.int (p : Nat))] ∧ m = d.natAbs + 2 - p ∧ 2 ≤ p ∧ p ≤ d.natAbs + 2 ∧ 1 ≤ w ∧ d = z * ((w * w : Nat) : Int) ∧ ∀ t, 2 ≤ t → t < p → ¬ t * t ∣ z.natAbs) (m := d.natAbs) ⟨d, 1, 2, rfl, rfl, by decide, by omega, by decide, by simp, fun t h1 h2 => absurd h1 (by omega)⟩ ?_
  rintro m ρ ⟨z, w, p, rfl, hm, p2, pd, hw, hd, hp⟩ nx hn
  obtain ⟨y1, y2, y3, y4, y5⟩ := facts z w hw hd
  have mo : IntMulOk (p : Int) (p : Int) := mulOk_b (up (by omega)) (up (by omega))
  have e0 : ((p * p : Nat) : Int) = (p : Int) * (p : Int) := Int.natCast_mul p p
  simp only [fSeq, fIfS, fRet, fRetN, fDrop, fAsg, fName, fGseq, fGtup, fGcons, fGnil, fVar, fK, f1, f2, fNil, fCons, fTup, fLst, fCall, fCall0, fCallG, fCallK, fCallK0, fRaise, fTry, tryX, fTest, gNot, gAnd, gOr, hAnd, hOr, hNot, fIf, fPar2, fPar3, fSkip, fNever, fBrk, fCnt, fIt, fItT, fItL, fFor, forL, startD, entry, pick, D.isNon,
  DL.lt', DL.le', DL.gt', DL.ge', fSl, fPart, fNo, List.map_cons, List.map_nil, List.length_cons, List.length_nil, List.append_nil, List.nil_append, List.cons_append, List.getElem?_cons_zero, List.getElem?_cons_succ, List.set_cons_zero, List.set_cons_succ, List.replicate_succ, List.replicate_zero, List.filterMap_cons, List.filterMap_nil, Nat.zero_add, Nat.reduceAdd, if_true, if_false, Bool.false_eq_true, Nat.sub_self, Nat.reduceSub, List.replicate_zero, List.map_cons, List.map_nil, List.cons_append, List.nil_append, List.append_nil, List.getElem?_cons_zero, List.getElem?_cons_succ, List.set_cons_zero, List.set_cons_succ, List.length_cons, List.length_nil, Nat.zero_add, Nat.reduceAdd, Nat.reduceLT, Nat.reduceLeDiff, ev_mul, ev_abs, ev_cmp, mo, true_and, DL.le', absI_nat, decide_eq_true_eq]
  by_cases hc : (p : Int) * (p : Int) ≤ (z.natAbs : Int)
  · rw [if_pos hc]
    rw [← e0] at hc
    have hc' : p * p ≤ z.natAbs := Int.ofNat_le.mp hc
    have pp : p ≤ p * p := Nat.le_mul_of_pos_right p (by omega)
    have pdd : p * p ≤ d.natAbs := Nat.le_trans hc' y3
    refine fWhile_inv (fun m ρ => ∃ (z : Int) (w : Nat), ρ = [some (.int d), some (.int z), some (.int (w : Nat)), some (.int (p : Nat))] ∧ m = z.natAbs ∧ 1 ≤ w ∧ d = z * ((w * w : Nat) : Int) ∧ ∀ t, 2 ≤ t → t < p → ¬ t * t ∣ z.natAbs) (m := z.natAbs) ⟨z, w, rfl, rfl, hw, hd, hp⟩ ?_
    clear y1 y2 y3 y4 y5 hw hd hp
    rintro m2 ρ ⟨z, w, rfl, hm2, hw, hd, hp⟩ ny hy
    obtain ⟨y1, y2, y3, y4, y5⟩ := facts z w hw hd
    have mw : IntMulOk (w : Int) (p : Int) := mulOk_b (up (by omega)) (up (by omega))
    have nz : (p : Int) * (p : Int) ≠ 0 := by rw [← e0]; omega
    have dv : DivOk z ((p : Int) * (p : Int)) := by
      rw [← e0]
      exact divOk_b (by omega) (up (by rw [Int.natAbs_natCast]; omega))
    simp only [fSeq, fIfS, fRet, fRetN, fDrop, fAsg, fName, fGseq, fGtup, fGcons, fGnil, fVar, fK, f1, f2, fNil, fCons, fTup, fLst, fCall, fCall0, fCallG, fCallK, fCallK0, fRaise, fTry, tryX, fTest, gNot, gAnd, gOr, hAnd, hOr, hNot, fIf, fPar2, fPar3, fSkip, fNever, fBrk, fCnt, fIt, fItT, fItL, fFor, forL, startD, entry, pick, D.isNon,
  DL.lt', DL.le', DL.gt', DL.ge', fSl, fPart, fNo, List.map_cons, List.map_nil, List.length_cons, List.length_nil, List.append_nil, List.nil_append, List.cons_append, List.getElem?_cons_zero, List.getElem?_cons_succ, List.set_cons_zero, List.set_cons_succ, List.replicate_succ, List.replicate_zero, List.filterMap_cons, List.filterMap_nil, Nat.zero_add, Nat.reduceAdd, if_true, if_false, Bool.false_eq_true, Nat.sub_self, Nat.reduceSub, List.replicate_zero, List.map_cons, List.map_nil, List.cons_append, List.nil_append, List.append_nil, List.getElem?_cons_zero, List.getElem?_cons_succ, List.set_cons_zero, List.set_cons_succ, List.length_cons, List.length_nil, Nat.zero_add, Nat.reduceAdd, Nat.reduceLT, Nat.reduceLeDiff, ev_int, ev_mul, ev_mod, ev_eq_int, mo, true_and, Bool.false_xor, decide_eq_true_eq]
    refine ⟨nz, ?_⟩
    by_cases hz : p * p ∣ z.natAbs
    · rw [if_pos ((fmod_sq z p).mpr hz)]
      simp only [fPar2, fSeq, fIfS, fRet, fRetN, fDrop, fAsg, fName, fGseq, fGtup, fGcons, fGnil, fVar, fK, f1, f2, fNil, fCons, fTup, fLst, fCall, fCall0, fCallG, fCallK, fCallK0, fRaise, fTry, tryX, fTest, gNot, gAnd, gOr, hAnd, hOr, hNot, fIf, fPar2, fPar3, fSkip, fNever, fBrk, fCnt, fIt, fItT, fItL, fFor, forL, startD, entry, pick, D.isNon,
  DL.lt', DL.le', DL.gt', DL.ge', fSl, fPart, fNo, List.map_cons, List.map_nil, List.length_cons, List.length_nil, List.append_nil, List.nil_append, List.cons_append, List.getElem?_cons_zero, List.getElem?_cons_succ, List.set_cons_zero, List.set_cons_succ, List.replicate_succ, List.replicate_zero, List.filterMap_cons, List.filterMap_nil, Nat.zero_add, Nat.reduceAdd, if_true, if_false, Bool.false_eq_true, Nat.sub_self, Nat.reduceSub, List.replicate_zero, List.map_cons, List.map_nil, List.cons_append, List.nil_append, List.append_nil, List.getElem?_cons_zero, List.getElem?_cons_succ, List.set_cons_zero, List.set_cons_succ, List.length_cons, List.length_nil, Nat.zero_add, Nat.reduceAdd, Nat.reduceLT, Nat.reduceLeDiff, ev_div, ev_mul, mo, mw, dv, true_and]
      obtain ⟨k, hk⟩ : ∃ k : Int, z = k * ((p * p : Nat) : Int) := by
        have : ((p * p : Nat) : Int) ∣ z := Int.natAbs_dvd_natAbs.mp hz
        obtain ⟨k, hk⟩ := this
        exact ⟨k, by rw [hk, Int.mul_comm]⟩
      have fd : z.fdiv ((p : Int) * (p : Int)) = k := by
        rw [← e0, hk]
        exact Int.mul_fdiv_cancel _ (by omega)
      have ez : z.natAbs = k.natAbs * (p * p) := by rw [hk, Int.natAbs_mul]; rfl
      rw [fd, ← Int.natCast_mul]
      refine hy k.natAbs _ ?_ ⟨k, w * p, rfl, rfl, Nat.mul_pos hw (by omega), ?_, fun t h1 h2 h3 => hp t h1 h2 (by rw [ez]; exact Nat.dvd_mul_right_of_dvd h3 _)⟩
      · rw [hm2, ez]
        have : 0 < k.natAbs := by
          apply Nat.pos_of_ne_zero
          intro z0
          rw [z0, Nat.zero_mul] at ez
          omega
        have : k.natAbs * 1 < k.natAbs * (p * p) := Nat.mul_lt_mul_of_pos_left (by omega) this
        omega
      · rw [hd, hk, Int.mul_assoc, ← Int.natCast_mul]
        congr 2
        grind
    · rw [if_neg fun e => hz ((fmod_sq z p).mp e)]
      simp only [fSeq, fIfS, fRet, fRetN, fDrop, fAsg, fName, fGseq, fGtup, fGcons, fGnil, fVar, fK, f1, f2, fNil, fCons, fTup, fLst, fCall, fCall0, fCallG, fCallK, fCallK0, fRaise, fTry, tryX, fTest, gNot, gAnd, gOr, hAnd, hOr, hNot, fIf, fPar2, fPar3, fSkip, fNever, fBrk, fCnt, fIt, fItT, fItL, fFor, forL, startD, entry, pick, D.isNon,
  DL.lt', DL.le', DL.gt', DL.ge', fSl, fPart, fNo, List.map_cons, List.map_nil, List.length_cons, List.length_nil, List.append_nil, List.nil_append, List.cons_append, List.getElem?_cons_zero, List.getElem?_cons_succ, List.set_cons_zero, List.set_cons_succ, List.replicate_succ, List.replicate_zero, List.filterMap_cons, List.filterMap_nil, Nat.zero_add, Nat.reduceAdd, if_true, if_false, Bool.false_eq_true, Nat.sub_self, Nat.reduceSub, List.replicate_zero, List.map_cons, List.map_nil, List.cons_append, List.nil_append, List.append_nil, List.getElem?_cons_zero, List.getElem?_cons_succ, List.set_cons_zero, List.set_cons_succ, List.length_cons, List.length_nil, Nat.zero_add, Nat.reduceAdd, Nat.reduceLT, Nat.reduceLeDiff, ev_add_int]
      refine hn (d.natAbs + 2 - (p + 1)) _ (by omega) ⟨z, w, p + 1, by rw [Int.natCast_add]; rfl, rfl, by omega, by omega, hw, hd, fun t h1 h2 => ?_⟩
      by_cases e : t = p
      · rw [e]; exact hz
      · exact hp t h1 (by omega)
  · rw [if_neg hc]
    rw [← e0] at hc
    have hc' : z.natAbs < p * p := by
      apply Classical.byContradiction
      intro w
      exact hc (Int.ofNat_le.mpr (by omega))
    rw [hR]; clear hR R
    simp only [fSeq, fIfS, fRet, fRetN, fDrop, fAsg, fName, fGseq, fGtup, fGcons, fGnil, fVar, fK, f1, f2, fNil, fCons, fTup, fLst, fCall, fCall0, fCallG, fCallK, fCallK0, fRaise, fTry, tryX, fTest, gNot, gAnd, gOr, hAnd, hOr, hNot, fIf, fPar2, fPar3, fSkip, fNever, fBrk, fCnt, fIt, fItT, fItL, fFor, forL, startD, entry, pick, D.isNon,
  DL.lt', DL.le', DL.gt', DL.ge', fSl, fPart, fNo, List.map_cons, List.map_nil, List.length_cons, List.length_nil, List.append_nil, List.nil_append, List.cons_append, List.getElem?_cons_zero, List.getElem?_cons_succ, List.set_cons_zero, List.set_cons_succ, List.replicate_succ, List.replicate_zero, List.filterMap_cons, List.filterMap_nil, Nat.zero_add, Nat.reduceAdd, if_true, if_false, Bool.false_eq_true, Nat.sub_self, Nat.reduceSub, List.replicate_zero, List.map_cons, List.map_nil, List.cons_append, List.nil_append, List.append_nil, List.getElem?_cons_zero, List.getElem?_cons_succ, List.set_cons_zero, List.set_cons_succ, List.length_cons, List.length_nil, Nat.zero_add, Nat.reduceAdd, Nat.reduceLT, Nat.reduceLeDiff, e1, e2]
    exact ⟨LNle (by decide), h z w hw hd (SF.small (by omega) hc' fun t h1 h2 => hp t h2 h1)⟩
end

end K01

set_option exponentiation.threshold 10000
namespace K01
open PySem PySem.Spec PyProof.Rows L2 DL DN
section
variable (q : D → Prop) (x : XD)
/-- (p + r root(l w w)) / s as told -/
noncomputable def tv (p r s l : Int) (w : Nat) : D := if l = 1 then nd (⟨((p + r * w : Int) : Rat) / s, 0⟩ : El 2) else nd (⟨(p : Rat) / s, ((r * w : Int) : Rat) / s⟩ : El l)
theorem div_mul_s {p s : Int} (hs : s ≠ 0) : (p : Rat) = (p : Rat) / s * s := by
  have : ((s : Int) : Rat) ≠ 0 := rcast_ne hs
  grind
theorem low1 {p r s l : Int} {w : Nat} (hs : s ≠ 0) (hb : s.natAbs < 2 ^ 9000) (hl : l = 1) (h : q (tv p r s l w)) : fn_lowered [.int (p + r * w), .int 0, .int s, .int 1] q x := by
  rw [lowered_eq (d := 2) (e := ⟨((p + r * w : Int) : Rat) / s, 0⟩) q x hs (div_mul_s hs) (by show ((0 : Int) : Rat) = 0 * (s : Rat); grind) hb (fun z => absurd rfl z)]
  unfold tv at h
  rw [if_pos hl] at h
  exact h
theorem low2 {p r s l : Int} {w : Nat} (hs : s ≠ 0) (hb : s.natAbs < 2 ^ 9000) (hl : l ≠ 1) (dd : Int) (hd : r * w ≠ 0 → dd = l) (h : q (tv p r s l w)) : fn_lowered [.int p, .int (r * w), .int s, .int dd] q x := by
  rw [lowered_eq (d := l) (e := ⟨(p : Rat) / s, ((r * w : Int) : Rat) / s⟩) q x hs (div_mul_s hs) (div_mul_s hs) hb hd]
  unfold tv at h
  rw [if_neg hl] at h
  exact h
theorem sg_of {d l : Int} {w : Nat} (h0 : d ≠ 0) (hw : 1 ≤ w) (e : d = l * ((w * w : Nat) : Int)) : sgI d * (l.natAbs : Int) = l := by
  have hp : (0 : Int) < ((w * w : Nat) : Int) := Int.ofNat_lt.mpr (Nat.mul_pos hw hw)
  unfold sgI
  by_cases hl : 0 < l
  · have : 0 < d := by rw [e]; exact Int.mul_pos hl hp
    rw [if_pos this]
    omega
  · have : ¬ d > 0 := fun z => by
      have h1 : l * ((w * w : Nat) : Int) ≤ 0 := Int.mul_nonpos_of_nonpos_of_nonneg (by omega) (by omega)
      omega
    rw [if_neg this]
    omega
theorem num_made_go {p r s d l : Int} {w : Nat} (hs : s ≠ 0) (hbs : s.natAbs < 2 ^ 9000) (hbr : r.natAbs < 2 ^ 3000) (h0 : d ≠ 0) (hb : d.natAbs < 2 ^ 3000) (hw : 1 ≤ w) (e : d = l * ((w * w : Nat) : Int)) (sf : SF l.natAbs) (h : q (tv p r s l w)) : fn_num_made [.int p, .int r, .int s, .int d] q x := by
  rw [fn_num_made_eq]; unfold g_num_made
  refine ⟨rfl, ?_⟩
  obtain ⟨E, hE⟩ : ∃ E, E = entry false q x := ⟨_, rfl⟩
  have e1 : E.rt = q := by rw [hE]
  have e2 : E.x = x := by rw [hE]
  rw [← hE]
  clear hE
  have eb : d.natAbs = w * w * l.natAbs := by rw [e, Int.natAbs_mul, Nat.mul_comm]; rfl
  have wd : w ≤ d.natAbs := by
    have hl : l.natAbs ≠ 0 := fun z => h0 (by rw [e, Int.natAbs_eq_zero.mp z, Int.zero_mul])
    have h1 : w ≤ w * w := Nat.le_mul_of_pos_right w hw
    have h2 : w * w ≤ w * w * l.natAbs := Nat.le_mul_of_pos_right _ (by omega)
    omega
  refine fSeq_split fun R hR => ?_
  simp only [fSeq, fIfS, fRet, fRetN, fDrop, fAsg, fName, fGseq, fGtup, fGcons, fGnil, fVar, fK, f1, f2, fNil, fCons, fTup, fLst, fCall, fCall0, fCallG, fCallK, fCallK0, fRaise, fTry, tryX, fTest, gNot, gAnd, gOr, hAnd, hOr, hNot, fIf, fPar2, fPar3, fSkip, fNever, fBrk, fCnt, fIt, fItT, fItL, fFor, forL, startD, entry, pick, D.isNon,
  DL.lt', DL.le', DL.gt', DL.ge', fSl, fPart, fNo, List.map_cons, List.map_nil, List.length_cons, List.length_nil, List.append_nil, List.nil_append, List.cons_append, List.getElem?_cons_zero, List.getElem?_cons_succ, List.set_cons_zero, List.set_cons_succ, List.replicate_succ, List.replicate_zero, List.filterMap_cons, List.filterMap_nil, Nat.zero_add, Nat.reduceAdd, if_true, if_false, Bool.false_eq_true, Nat.sub_self, Nat.reduceSub, List.replicate_zero, List.map_cons, List.map_nil, List.cons_append, List.nil_append, List.append_nil, List.getElem?_cons_zero, List.getElem?_cons_succ, List.set_cons_zero, List.set_cons_succ, List.length_cons, List.length_nil, Nat.zero_add, Nat.reduceAdd, Nat.reduceLT, Nat.reduceLeDiff, e1, e2, ev_eq_int, Bool.false_xor, decide_eq_true_eq]
  by_cases hr : r = 0
  · rw [if_pos hr]
    by_cases hl : l = 1
    · have := low1 q x (p := p) (r := r) (w := w) hs hbs hl h
      rw [hr, Int.zero_mul, Int.add_zero] at this
      exact this
    · have := low2 q x (p := p) (r := r) (w := w) hs hbs hl 1 (fun z => absurd (by rw [hr, Int.zero_mul]) z) h
      rw [hr, Int.zero_mul] at this
      exact this
  rw [if_neg hr, hR]; clear hR R
  refine fSeq_split fun R hR => ?_
  simp only [fSeq, fIfS, fRet, fRetN, fDrop, fAsg, fName, fGseq, fGtup, fGcons, fGnil, fVar, fK, f1, f2, fNil, fCons, fTup, fLst, fCall, fCall0, fCallG, fCallK, fCallK0, fRaise, fTry, tryX, fTest, gNot, gAnd, gOr, hAnd, hOr, hNot, fIf, fPar2, fPar3, fSkip, fNever, fBrk, fCnt, fIt, fItT, fItL, fFor, forL, startD, entry, pick, D.isNon,
  DL.lt', DL.le', DL.gt', DL.ge', fSl, fPart, fNo, List.map_cons, List.map_nil, List.length_cons, List.length_nil, List.append_nil, List.nil_append, List.cons_append, List.getElem?_cons_zero, List.getElem?_cons_succ, List.set_cons_zero, List.set_cons_succ, List.replicate_succ, List.replicate_zero, List.filterMap_cons, List.filterMap_nil, Nat.zero_add, Nat.reduceAdd, if_true, if_false, Bool.false_eq_true, Nat.sub_self, Nat.reduceSub, List.replicate_zero, List.map_cons, List.map_nil, List.cons_append, List.nil_append, List.append_nil, List.getElem?_cons_zero, List.getElem?_cons_succ, List.set_cons_zero, List.set_cons_succ, List.length_cons, List.length_nil, Nat.zero_add, Nat.reduceAdd, Nat.reduceLT, Nat.reduceLeDiff, e1, e2]
  refine square_parts_go _ _ d h0 hb fun o i o1 e3 sfi => ?_
  obtain ⟨rfl, rfl⟩ := sq_uniq sfi sf o1 hw (by rw [← e3, eb])
  rw [sg_of h0 hw e]
  refine ⟨rfl, trivial, trivial, rfl, ?_⟩
  rw [hR]; clear hR R
  have mo : IntMulOk r (o : Int) := mulOk_b (Nat.lt_of_lt_of_le hbr (Nat.pow_le_pow_right (by decide) (by decide))) (by rw [Int.natAbs_natCast]; exact Nat.lt_of_le_of_lt wd (Nat.lt_of_lt_of_le hb (Nat.pow_le_pow_right (by decide) (by decide))))
  refine fSeq_split fun R hR => ?_
  simp only [fSeq, fIfS, fRet, fRetN, fDrop, fAsg, fName, fGseq, fGtup, fGcons, fGnil, fVar, fK, f1, f2, fNil, fCons, fTup, fLst, fCall, fCall0, fCallG, fCallK, fCallK0, fRaise, fTry, tryX, fTest, gNot, gAnd, gOr, hAnd, hOr, hNot, fIf, fPar2, fPar3, fSkip, fNever, fBrk, fCnt, fIt, fItT, fItL, fFor, forL, startD, entry, pick, D.isNon,
  DL.lt', DL.le', DL.gt', DL.ge', fSl, fPart, fNo, List.map_cons, List.map_nil, List.length_cons, List.length_nil, List.append_nil, List.nil_append, List.cons_append, List.getElem?_cons_zero, List.getElem?_cons_succ, List.set_cons_zero, List.set_cons_succ, List.replicate_succ, List.replicate_zero, List.filterMap_cons, List.filterMap_nil, Nat.zero_add, Nat.reduceAdd, if_true, if_false, Bool.false_eq_true, Nat.sub_self, Nat.reduceSub, List.replicate_zero, List.map_cons, List.map_nil, List.cons_append, List.nil_append, List.append_nil, List.getElem?_cons_zero, List.getElem?_cons_succ, List.set_cons_zero, List.set_cons_succ, List.length_cons, List.length_nil, Nat.zero_add, Nat.reduceAdd, Nat.reduceLT, Nat.reduceLeDiff, e1, e2, ev_eq_int, Bool.false_xor, decide_eq_true_eq, ev_mul, ev_add_int, mo, true_and]
  by_cases hl : l = 1
  · rw [if_pos hl]
    exact low1 q x hs hbs hl h
  · rw [if_neg hl, hR]; clear hR R
    simp only [fSeq, fIfS, fRet, fRetN, fDrop, fAsg, fName, fGseq, fGtup, fGcons, fGnil, fVar, fK, f1, f2, fNil, fCons, fTup, fLst, fCall, fCall0, fCallG, fCallK, fCallK0, fRaise, fTry, tryX, fTest, gNot, gAnd, gOr, hAnd, hOr, hNot, fIf, fPar2, fPar3, fSkip, fNever, fBrk, fCnt, fIt, fItT, fItL, fFor, forL, startD, entry, pick, D.isNon,
  DL.lt', DL.le', DL.gt', DL.ge', fSl, fPart, fNo, List.map_cons, List.map_nil, List.length_cons, List.length_nil, List.append_nil, List.nil_append, List.cons_append, List.getElem?_cons_zero, List.getElem?_cons_succ, List.set_cons_zero, List.set_cons_succ, List.replicate_succ, List.replicate_zero, List.filterMap_cons, List.filterMap_nil, Nat.zero_add, Nat.reduceAdd, if_true, if_false, Bool.false_eq_true, Nat.sub_self, Nat.reduceSub, List.replicate_zero, List.map_cons, List.map_nil, List.cons_append, List.nil_append, List.append_nil, List.getElem?_cons_zero, List.getElem?_cons_succ, List.set_cons_zero, List.set_cons_succ, List.length_cons, List.length_nil, Nat.zero_add, Nat.reduceAdd, Nat.reduceLT, Nat.reduceLeDiff, e1, e2, ev_mul, mo, true_and]
    exact low2 q x hs hbs hl l (fun _ => rfl) h
/-- the law's own -/
theorem law_tv {p r s l : Int} {w : Nat} (hs : s ≠ 0) (hbs : s.natAbs < 2 ^ 9000) (h : q (tv p r s l w)) : fn__law_made [.int p, .int (r * w), .int s, .int l] q x := by
  by_cases hl : l = 1
  · rw [hl]
    refine made_one q x p (r * w) s ?_
    refine made_of q x (d := 2) (e := ⟨((p + r * w : Int) : Rat) / s, 0⟩) hs (div_mul_s hs) (by show ((0 : Int) : Rat) = 0 * (s : Rat); grind) hbs (fun z => absurd rfl z) (fun _ => rfl) ?_
    unfold tv at h
    rw [if_pos hl] at h
    exact h
  · refine made_of q x (d := l) (e := ⟨(p : Rat) / s, ((r * w : Int) : Rat) / s⟩) hs (div_mul_s hs) (div_mul_s hs) hbs (fun _ => rfl) (fun z => absurd z hl) ?_
    unfold tv at h
    rw [if_neg hl] at h
    exact h
end

end K01

set_option exponentiation.threshold 10000
namespace K01
open PySem PySem.Spec PyProof.Rows L2 DL DN
section
variable (q : D → Prop) (x : XD)
structure Prt (d l : Int) (w : Nat) : Prop where
  w1 : 1 ≤ w
  eq : d = l * ((w * w : Nat) : Int)
  sf : SF l.natAbs
theorem parts_ex (n : Nat) : ∀ d : Int, d.natAbs = n → d ≠ 0 → ∃ l w, Prt d l w := by
  induction n using Nat.strongRecOn with
  | ind n ih =>
    intro d hn h0
    by_cases h : SF d.natAbs
    · exact ⟨d, 1, by decide, by simp, h⟩
    · have : ∃ t, 2 ≤ t ∧ t * t ∣ d.natAbs := by
        apply Classical.byContradiction
        intro z
        exact h fun t ht hd => z ⟨t, ht, hd⟩
      obtain ⟨t, ht, hd⟩ := this
      obtain ⟨k, hk⟩ : ((t * t : Nat) : Int) ∣ d := Int.natAbs_dvd_natAbs.mp hd
      have k0 : k ≠ 0 := fun z => h0 (by rw [hk, z, Int.mul_zero])
      have ea : d.natAbs = t * t * k.natAbs := by rw [hk, Int.natAbs_mul]; rfl
      have lt : k.natAbs < n := by
        rw [← hn, ea]
        have h1 : 1 < t * t := Nat.lt_of_lt_of_le (show 1 < 2 * 2 by decide) (Nat.mul_le_mul ht ht)
        have h2 := Nat.mul_lt_mul_of_pos_right h1 (show 0 < k.natAbs by omega)
        omega
      obtain ⟨l, w, p⟩ := ih _ lt k rfl k0
      refine ⟨l, w * t, Nat.mul_pos p.w1 (by omega), ?_, p.sf⟩
      rw [hk, p.eq, Int.mul_comm, Int.mul_assoc, ← Int.natCast_mul]
      congr 2
      grind
theorem Prt.uniq {d l l' : Int} {w w' : Nat} (h0 : d ≠ 0) (a : Prt d l w) (b : Prt d l' w') : l = l' ∧ w = w' := by
  have e1 : d.natAbs = w * w * l.natAbs := by rw [a.eq, Int.natAbs_mul, Nat.mul_comm]; rfl
  have e2 : d.natAbs = w' * w' * l'.natAbs := by rw [b.eq, Int.natAbs_mul, Nat.mul_comm]; rfl
  obtain ⟨h1, h2⟩ := sq_uniq a.sf b.sf a.w1 b.w1 (by rw [← e1, e2])
  refine ⟨?_, h1⟩
  rw [← sg_of h0 a.w1 a.eq, ← sg_of h0 b.w1 b.eq, h2]
theorem parted_at {d l : Int} {w : Nat} (h0 : d ≠ 0) (hb : d.natAbs < 2 ^ 3000) (a : Prt d l w) (h : q (.tup [.int l, .int (w : Nat)])) : fn__law_parted [.int d] q x :=
  parted_go q x d h0 hb fun l' w' h1 h2 h3 => by
    obtain ⟨e1, e2⟩ := Prt.uniq h0 a ⟨h1, h2, h3⟩
    rw [← e1, ← e2]; exact h
theorem Prt.le {d l : Int} {w : Nat} (h0 : d ≠ 0) (a : Prt d l w) : l ≠ 0 ∧ l.natAbs ≤ d.natAbs ∧ w ≤ d.natAbs := by
  have e1 : d.natAbs = w * w * l.natAbs := by rw [a.eq, Int.natAbs_mul, Nat.mul_comm]; rfl
  have hl : l ≠ 0 := fun z => h0 (by rw [a.eq, z, Int.zero_mul])
  have h1 : w ≤ w * w := Nat.le_mul_of_pos_right w a.w1
  have h2 : w * w ≤ w * w * l.natAbs := Nat.le_mul_of_pos_right _ (by omega)
  have h3 : l.natAbs ≤ w * w * l.natAbs := Nat.le_mul_of_pos_left _ (Nat.mul_pos a.w1 a.w1)
  exact ⟨hl, by omega, by omega⟩
/-- a told number as one of a right root -/
theorem tv_nd {p r s d l : Int} {w : Nat} (hs : s ≠ 0) (h0 : d ≠ 0) (a : Prt d l w) (hd : l.natAbs ≤ 10 ^ 12) (hp : p.natAbs ≤ 2 ^ 110) (hr : r.natAbs ≤ 2 ^ 110) (hs2 : s.natAbs ≤ 2 ^ 110) (hw : w ≤ 2 ^ 40) :
    ∃ c, Rq c ∧ c.natAbs ≤ 10 ^ 12 ∧ ∃ e : El c, tv p r s l w = nd e ∧ Sx e 195 ∧ e.a * e.a + e.b * e.b * c = (if l = 1 then ((p + r * w : Int) : Rat) / s * (((p + r * w : Int) : Rat) / s) else (p : Rat) / s * ((p : Rat) / s) + ((r * w : Int) : Rat) / s * (((r * w : Int) : Rat) / s) * l) := by
  have hrw : (r * (w : Int)).natAbs ≤ 2 ^ 150 := by
    rw [Int.natAbs_mul, Int.natAbs_natCast]
    exact Nat.le_trans (Nat.mul_le_mul hr hw) (by decide)
  have hsr : ((s : Int) : Rat) ≠ 0 := rcast_ne hs
  unfold tv
  by_cases hl : l = 1
  · rw [if_pos hl, if_pos hl]
    refine ⟨2, Rq.two, by decide, _, rfl, ?_, ?_⟩
    · refine ⟨_, _, raw_sz (P := p + r * w) (Q := 0) (S := s) hs (div_mul_s hs) (by show ((0 : Int) : Rat) = 0 * (s : Rat); grind), ?_, ?_⟩
      · exact Nat.le_trans hs2 (by decide)
      · have := Int.natAbs_add_le p (r * w)
        have : (2 : Nat) ^ 110 + 2 ^ 150 ≤ 2 ^ 195 := by decide
        simp only [Int.natAbs_zero, Nat.zero_mul, Nat.add_zero]
        omega
    · show ((p + r * w : Int) : Rat) / s * (((p + r * w : Int) : Rat) / s) + 0 * 0 * _ = _
      grind
  · rw [if_neg hl, if_neg hl]
    have hle := (a.le h0).1
    refine ⟨l, Rq.sf hl hle hd a.sf, hd, _, rfl, ?_, rfl⟩
    refine ⟨_, _, raw_sz (P := p) (Q := r * w) (S := s) hs (div_mul_s hs) (div_mul_s hs), ?_, ?_⟩
    · exact Nat.le_trans hs2 (by decide)
    · have := Nat.mul_le_mul hrw hd
      have : (2 : Nat) ^ 110 + 2 ^ 150 * 10 ^ 12 ≤ 2 ^ 195 := by decide
      omega
end

end K01

set_option exponentiation.threshold 10000
namespace K01
open PySem PySem.Spec PyProof.Rows L2 DL DN
section
variable (q : D → Prop) (x : XD)
theorem number_of_bad (a b c e : D) (ho : D.oksR [a, b, c, e] = true) (hb : [a, b, c, e].all isI = false ∨ c = .int 0 ∨ e = .int 0) (hx : x "BadNumber" (.tup [a, b, c, e])) : fn_number_of [a, b, c, e] q x := by
  rw [fn_number_of_eq]; unfold g_number_of
  refine ⟨rfl, ?_⟩
  refine fSeq_split fun R hR => ?_
  clear hR
  dsimp only [fLc, fSeq, fIfS, fRet, fRetN, fDrop, fAsg, fName, fGseq, fGtup, fGcons, fGnil, fVar, fK, f1, f2, fNil, fCons, fTup, fLst, fCall, fCall0, fCallG, fCallK, fCallK0, fRaise, fTry, tryX, fTest, gNot, gAnd, gOr, hAnd, hOr, hNot, fIf, fPar2, fPar3, fSkip, fNever, fBrk, fCnt, fIt, fItT, fItL, fFor, forL, startD, entry, pick, D.isNon,
  DL.lt', DL.le', DL.gt', DL.ge', fSl, fPart, fNo, List.map_cons, List.map_nil, List.length_cons, List.length_nil, List.append_nil, List.nil_append, List.cons_append, List.getElem?_cons_zero, List.getElem?_cons_succ, List.set_cons_zero, List.set_cons_succ, List.replicate_succ, List.replicate_zero, List.filterMap_cons, List.filterMap_nil, Nat.zero_add, Nat.reduceAdd, if_true, if_false, Bool.false_eq_true]
  simp only [Nat.sub_self, Nat.reduceSub, List.replicate_zero, List.map_cons, List.map_nil, List.cons_append, List.nil_append, List.append_nil, List.getElem?_cons_zero, List.getElem?_cons_succ, List.set_cons_zero, List.set_cons_succ, List.length_cons, List.length_nil, Nat.zero_add, Nat.reduceAdd, Nat.reduceLT, Nat.reduceLeDiff]
  refine ⟨LNle (by decide), ?_⟩
  refine lc_map (fun a => .bl (isI a)) _ [] (fun u h' q' hq => ⟨show (4 : Nat) < 5 by decide, is_whole_any _ _ u (okR_mem ho u h') hq⟩) (LNle (Nat.le_of_ble_eq_true rfl)) ?_
  rw [List.nil_append, show [a, b, c, e].map (fun a => D.bl (isI a)) = ([a, b, c, e].map isI).map D.bl from rfl, all_bl, List.all_map, show (id ∘ isI) = isI from rfl]
  generalize hA : [a, b, c, e].all isI = t at hb ⊢
  have l4 := LNle (n := 4) (by decide)
  cases t with
  | false =>
    simp only [Bool.not_false, if_true]
    exact ⟨l4, hx⟩
  | true =>
    rw [List.all_eq_true] at hA
    simp only [Bool.not_true, Bool.false_eq_true, if_false]
    obtain ⟨i, rfl⟩ := isI_int (hA c (by simp))
    obtain ⟨j, rfl⟩ := isI_int (hA e (by simp))
    simp only [ev_eq_int, Bool.false_xor, decide_eq_true_eq]
    by_cases hi : i = 0
    · rw [if_pos hi]; exact ⟨l4, hx⟩
    · rw [if_neg hi]
      by_cases hj : j = 0
      · rw [if_pos hj]; exact ⟨l4, hx⟩
      · rcases hb with z | z | z
        · cases z
        · injection z with z; exact absurd z hi
        · injection z with z; exact absurd z hj
theorem number_of_go {p r s d l : Int} {w : Nat} (hs : s ≠ 0) (hbs : s.natAbs < 2 ^ 9000) (hbr : r.natAbs < 2 ^ 3000) (h0 : d ≠ 0) (hb : d.natAbs < 2 ^ 3000) (a : Prt d l w) (h : q (tv p r s l w)) : fn_number_of [.int p, .int r, .int s, .int d] q x := by
  rw [fn_number_of_eq]; unfold g_number_of
  refine ⟨rfl, ?_⟩
  refine fSeq_split fun R hR => ?_
  dsimp only [fLc, fSeq, fIfS, fRet, fRetN, fDrop, fAsg, fName, fGseq, fGtup, fGcons, fGnil, fVar, fK, f1, f2, fNil, fCons, fTup, fLst, fCall, fCall0, fCallG, fCallK, fCallK0, fRaise, fTry, tryX, fTest, gNot, gAnd, gOr, hAnd, hOr, hNot, fIf, fPar2, fPar3, fSkip, fNever, fBrk, fCnt, fIt, fItT, fItL, fFor, forL, startD, entry, pick, D.isNon,
  DL.lt', DL.le', DL.gt', DL.ge', fSl, fPart, fNo, List.map_cons, List.map_nil, List.length_cons, List.length_nil, List.append_nil, List.nil_append, List.cons_append, List.getElem?_cons_zero, List.getElem?_cons_succ, List.set_cons_zero, List.set_cons_succ, List.replicate_succ, List.replicate_zero, List.filterMap_cons, List.filterMap_nil, Nat.zero_add, Nat.reduceAdd, if_true, if_false, Bool.false_eq_true]
  simp only [Nat.sub_self, Nat.reduceSub, List.replicate_zero, List.map_cons, List.map_nil, List.cons_append, List.nil_append, List.append_nil, List.getElem?_cons_zero, List.getElem?_cons_succ, List.set_cons_zero, List.set_cons_succ, List.length_cons, List.length_nil, Nat.zero_add, Nat.reduceAdd, Nat.reduceLT, Nat.reduceLeDiff]
  refine ⟨LNle (by decide), ?_⟩
  refine lc_map (fun _ => .bl true) _ [] (fun u h' q' hq => ?_) (LNle (Nat.le_of_ble_eq_true rfl)) (all_true _ _ _ ?_)
  · have : ∃ i : Int, u = .int i := by simp at h'; rcases h' with e | e | e | e <;> exact ⟨_, e⟩
    obtain ⟨i, rfl⟩ := this
    exact ⟨show (4 : Nat) < 5 by decide, is_whole_int _ _ i hq⟩
  · simp only [Bool.not_true, Bool.false_eq_true, if_false, ev_eq_int, Bool.false_xor, hs, h0, decide_false]
    rw [hR]; clear hR R
    simp only [fSeq, fIfS, fRet, fRetN, fDrop, fAsg, fName, fGseq, fGtup, fGcons, fGnil, fVar, fK, f1, f2, fNil, fCons, fTup, fLst, fCall, fCall0, fCallG, fCallK, fCallK0, fRaise, fTry, tryX, fTest, gNot, gAnd, gOr, hAnd, hOr, hNot, fIf, fPar2, fPar3, fSkip, fNever, fBrk, fCnt, fIt, fItT, fItL, fFor, forL, startD, entry, pick, D.isNon,
  DL.lt', DL.le', DL.gt', DL.ge', fSl, fPart, fNo, List.map_cons, List.map_nil, List.length_cons, List.length_nil, List.append_nil, List.nil_append, List.cons_append, List.getElem?_cons_zero, List.getElem?_cons_succ, List.set_cons_zero, List.set_cons_succ, List.replicate_succ, List.replicate_zero, List.filterMap_cons, List.filterMap_nil, Nat.zero_add, Nat.reduceAdd, if_true, if_false, Bool.false_eq_true, Nat.sub_self, Nat.reduceSub, List.replicate_zero, List.map_cons, List.map_nil, List.cons_append, List.nil_append, List.append_nil, List.getElem?_cons_zero, List.getElem?_cons_succ, List.set_cons_zero, List.set_cons_succ, List.length_cons, List.length_nil, Nat.zero_add, Nat.reduceAdd, Nat.reduceLT, Nat.reduceLeDiff]
    exact num_made_go q x hs hbs hbr h0 hb a.w1 a.eq a.sf h
theorem root_of_bad (a b : D) (ha : a.okR = true) (hb : b.okR = true) (hbad : isI a = false ∨ isI b = false ∨ b = .int 0) (hx : x "BadNumber" (.tup [a, b])) : fn_root_of [a, b] q x := by
  rw [fn_root_of_eq]; unfold g_root_of
  refine ⟨rfl, ?_⟩
  refine fSeq_split fun R hR => ?_
  clear hR
  have l2 := LNle (n := 2) (by decide)
  simp only [fSeq, fIfS, fRet, fRetN, fDrop, fAsg, fName, fGseq, fGtup, fGcons, fGnil, fVar, fK, f1, f2, fNil, fCons, fTup, fLst, fCall, fCall0, fCallG, fCallK, fCallK0, fRaise, fTry, tryX, fTest, gNot, gAnd, gOr, hAnd, hOr, hNot, fIf, fPar2, fPar3, fSkip, fNever, fBrk, fCnt, fIt, fItT, fItL, fFor, forL, startD, entry, pick, D.isNon,
  DL.lt', DL.le', DL.gt', DL.ge', fSl, fPart, fNo, List.map_cons, List.map_nil, List.length_cons, List.length_nil, List.append_nil, List.nil_append, List.cons_append, List.getElem?_cons_zero, List.getElem?_cons_succ, List.set_cons_zero, List.set_cons_succ, List.replicate_succ, List.replicate_zero, List.filterMap_cons, List.filterMap_nil, Nat.zero_add, Nat.reduceAdd, if_true, if_false, Bool.false_eq_true, Nat.sub_self, Nat.reduceSub, List.replicate_zero, List.map_cons, List.map_nil, List.cons_append, List.nil_append, List.append_nil, List.getElem?_cons_zero, List.getElem?_cons_succ, List.set_cons_zero, List.set_cons_succ, List.length_cons, List.length_nil, Nat.zero_add, Nat.reduceAdd, Nat.reduceLT, Nat.reduceLeDiff]
  refine is_whole_any _ _ a ha ?_
  cases h1 : isI a with
  | false =>
    simp only [Bool.not_false, if_true]
    exact ⟨l2, hx⟩
  | true =>
    simp only [Bool.not_true, Bool.false_eq_true, if_false]
    refine is_whole_any _ _ b hb ?_
    cases h2 : isI b with
    | false =>
      simp only [Bool.not_false, if_true]
      exact ⟨l2, hx⟩
    | true =>
      simp only [Bool.not_true, Bool.false_eq_true, if_false]
      have : b = .int 0 := by
        rcases hbad with z | z | z
        · rw [h1] at z; cases z
        · rw [h2] at z; cases z
        · exact z
      subst this
      simp only [ev_eq_int, Bool.false_xor, decide_true, if_true]
      exact ⟨l2, hx⟩
end

end K01

set_option exponentiation.threshold 10000
namespace K01
open PySem PySem.Spec PyProof.Rows L2 DL DN
section
variable (q : D → Prop) (x : XD)
theorem tv_eq {s s' l : Int} {w w' : Nat} (h : ((w : Int) : Rat) / s = ((w' : Int) : Rat) / s') : tv 0 1 s l w = tv 0 1 s' l w' := by
  unfold tv
  have e1 : (((0 : Int) + 1 * (w : Int) : Int) : Rat) = ((w : Int) : Rat) := by rw [Int.zero_add, Int.one_mul]
  have e2 : (((0 : Int) + 1 * (w' : Int) : Int) : Rat) = ((w' : Int) : Rat) := by rw [Int.zero_add, Int.one_mul]
  have e3 : ((1 * (w : Int) : Int) : Rat) = ((w : Int) : Rat) := by rw [Int.one_mul]
  have e4 : ((1 * (w' : Int) : Int) : Rat) = ((w' : Int) : Rat) := by rw [Int.one_mul]
  have e5 : ((0 : Int) : Rat) / s = ((0 : Int) : Rat) / s' := by
    have : ((0 : Int) : Rat) = 0 := rfl
    rw [this]; grind
  rw [e1, e2, e3, e4, h, e5]
theorem Prt.scale {d l : Int} {w : Nat} (a : Prt d l w) {k : Nat} (hk : 1 ≤ k) : Prt (d * ((k * k : Nat) : Int)) l (w * k) := by
  refine ⟨Nat.mul_pos a.w1 hk, ?_, a.sf⟩
  rw [a.eq, Int.mul_assoc, ← Int.natCast_mul]
  congr 2
  grind
theorem sq_abs (b : Int) : ((b.natAbs * b.natAbs : Nat) : Int) = b * b := by
  rw [Int.natCast_mul]
  by_cases h : 0 ≤ b
  · rw [show ((b.natAbs : Nat) : Int) = b by omega]
  · rw [show ((b.natAbs : Nat) : Int) = -b by omega, Int.neg_mul_neg]
/-- t / b in lowest terms has the root of t b -/
theorem root_parts {t b u s l : Int} {w : Nat} (hb : b ≠ 0) (hs : 0 < s) (ht : t ≠ 0) (h : u * b = t * s) (a : Prt (t * b) l w) : u ≠ 0 ∧ ∃ w', Prt (u * s) l w' ∧ ((w' : Int) : Rat) / s = ((w : Int) : Rat) / (b.natAbs : Int) := by
  have hu : u ≠ 0 := fun z => by
    rw [z, Int.zero_mul] at h
    rcases Int.mul_eq_zero.mp h.symm with w | w
    · exact ht w
    · omega
  refine ⟨hu, ?_⟩
  have us : u * s ≠ 0 := Int.mul_ne_zero hu (by omega)
  obtain ⟨l', w', a'⟩ := parts_ex _ (u * s) rfl us
  have k1 : 1 ≤ s.natAbs := by omega
  have k2 : 1 ≤ b.natAbs := by omega
  have A := a.scale k1
  have B := a'.scale k2
  have e : t * b * ((s.natAbs * s.natAbs : Nat) : Int) = u * s * ((b.natAbs * b.natAbs : Nat) : Int) := by
    rw [sq_abs, sq_abs]
    have : u * s * (b * b) = (u * b) * (s * b) := by grind
    rw [this, h]; grind
  rw [← e] at B
  obtain ⟨e1, e2⟩ := Prt.uniq (Int.mul_ne_zero (Int.mul_ne_zero ht hb) (by rw [sq_abs]; exact Int.mul_ne_zero (by omega) (by omega))) A B
  subst e1
  refine ⟨w', a', ?_⟩
  have hsr : ((s : Int) : Rat) ≠ 0 := rcast_ne (by omega)
  have hbr : (((b.natAbs : Nat) : Int) : Rat) ≠ 0 := rcast_ne (by omega)
  have e3 : (w : Int) * s = (w' : Int) * (b.natAbs : Int) := by
    have := congrArg (fun n : Nat => (n : Int)) e2
    simp only [Int.natCast_mul] at this
    rwa [show ((s.natAbs : Nat) : Int) = s by omega] at this
  have e4 : ((w : Int) : Rat) * s = ((w' : Int) : Rat) * ((b.natAbs : Nat) : Int) := by
    rw [← Rat.intCast_mul, ← Rat.intCast_mul, e3]
  grind
theorem root_of_go {t b l : Int} {w : Nat} (hb : b ≠ 0) (ht : t ≠ 0) (hbt : t.natAbs ≤ 2 ^ 1000) (hbb : b.natAbs ≤ 2 ^ 1000) (a : Prt (t * b) l w) (h : q (tv 0 1 (b.natAbs : Int) l w)) : fn_root_of [.int t, .int b] q x := by
  rw [fn_root_of_eq]; unfold g_root_of
  refine ⟨rfl, ?_⟩
  refine fSeq_split fun R hR => ?_
  dsimp only [fSeq, fIfS, fRet, fRetN, fDrop, fAsg, fName, fGseq, fGtup, fGcons, fGnil, fVar, fK, f1, f2, fNil, fCons, fTup, fLst, fCall, fCall0, fCallG, fCallK, fCallK0, fRaise, fTry, tryX, fTest, gNot, gAnd, gOr, hAnd, hOr, hNot, fIf, fPar2, fPar3, fSkip, fNever, fBrk, fCnt, fIt, fItT, fItL, fFor, forL, startD, entry, pick, D.isNon,
  DL.lt', DL.le', DL.gt', DL.ge', fSl, fPart, fNo, List.map_cons, List.map_nil, List.length_cons, List.length_nil, List.append_nil, List.nil_append, List.cons_append, List.getElem?_cons_zero, List.getElem?_cons_succ, List.set_cons_zero, List.set_cons_succ, List.replicate_succ, List.replicate_zero, List.filterMap_cons, List.filterMap_nil, Nat.zero_add, Nat.reduceAdd, if_true, if_false, Bool.false_eq_true]
  simp only [Nat.sub_self, Nat.reduceSub, List.replicate_zero, List.map_cons, List.map_nil, List.cons_append, List.nil_append, List.append_nil, List.getElem?_cons_zero, List.getElem?_cons_succ, List.set_cons_zero, List.set_cons_succ, List.length_cons, List.length_nil, Nat.zero_add, Nat.reduceAdd, Nat.reduceLT, Nat.reduceLeDiff]
  refine is_whole_int _ _ t ?_
  simp only [Bool.not_true, Bool.false_eq_true, if_false]
  refine is_whole_int _ _ b ?_
  simp only [Bool.not_true, Bool.false_eq_true, if_false, ev_eq_int, Bool.false_xor, hb, decide_false]
  rw [hR]; clear hR R
  dsimp only [fSeq, fIfS, fRet, fRetN, fDrop, fAsg, fName, fGseq, fGtup, fGcons, fGnil, fVar, fK, f1, f2, fNil, fCons, fTup, fLst, fCall, fCall0, fCallG, fCallK, fCallK0, fRaise, fTry, tryX, fTest, gNot, gAnd, gOr, hAnd, hOr, hNot, fIf, fPar2, fPar3, fSkip, fNever, fBrk, fCnt, fIt, fItT, fItL, fFor, forL, startD, entry, pick, D.isNon,
  DL.lt', DL.le', DL.gt', DL.ge', fSl, fPart, fNo, List.map_cons, List.map_nil, List.length_cons, List.length_nil, List.append_nil, List.nil_append, List.cons_append, List.getElem?_cons_zero, List.getElem?_cons_succ, List.set_cons_zero, List.set_cons_succ, List.replicate_succ, List.replicate_zero, List.filterMap_cons, List.filterMap_nil, Nat.zero_add, Nat.reduceAdd, if_true, if_false, Bool.false_eq_true]
  have up : ∀ {n : Nat}, n ≤ 2 ^ 1000 → n < 2 ^ 3000 := fun h => Nat.lt_of_le_of_lt h (Nat.pow_lt_pow_right (by decide) (by decide))
  -- the fraction
  have nm : ∀ (q : D → Prop) (x : XD), q (nd (⟨(t : Rat) / b, 0⟩ : El 2)) → fn_num [.int t, .int b] q x := fun q x h => by
    rw [fn_num_eq]; unfold g_num
    refine ⟨rfl, ?_⟩
    dsimp only [fSeq, fIfS, fRet, fRetN, fDrop, fAsg, fName, fGseq, fGtup, fGcons, fGnil, fVar, fK, f1, f2, fNil, fCons, fTup, fLst, fCall, fCall0, fCallG, fCallK, fCallK0, fRaise, fTry, tryX, fTest, gNot, gAnd, gOr, hAnd, hOr, hNot, fIf, fPar2, fPar3, fSkip, fNever, fBrk, fCnt, fIt, fItT, fItL, fFor, forL, startD, entry, pick, D.isNon,
  DL.lt', DL.le', DL.gt', DL.ge', fSl, fPart, fNo, List.map_cons, List.map_nil, List.length_cons, List.length_nil, List.append_nil, List.nil_append, List.cons_append, List.getElem?_cons_zero, List.getElem?_cons_succ, List.set_cons_zero, List.set_cons_succ, List.replicate_succ, List.replicate_zero, List.filterMap_cons, List.filterMap_nil, Nat.zero_add, Nat.reduceAdd, if_true, if_false, Bool.false_eq_true]
    show fn_lowered _ _ _
    rw [lowered_eq (d := 2) (e := ⟨(t : Rat) / b, 0⟩) q x hb (div_mul_s hb) (by show ((0 : Int) : Rat) = 0 * (b : Rat); grind) (Nat.lt_of_lt_of_le (up hbb) (Nat.pow_le_pow_right (by decide) (by decide))) (fun z => absurd rfl z)]
    exact h
  refine nm _ _ ?_
  have c := cn_ok (⟨(t : Rat) / b, 0⟩ : El 2)
  rw [fn_num_root_eq, nd_eq]; unfold g_num_root
  refine ⟨rfl, ?_⟩
  obtain ⟨k1, k2, k3⟩ := (show Sx (⟨(t : Rat) / b, 0⟩ : El 2) 1000 from ⟨_, _, raw_sz (P := t) (Q := 0) (S := b) hb (div_mul_s hb) (by show ((0 : Int) : Rat) = 0 * (b : Rat); grind), hbb, by simpa using hbt⟩).canon (by decide) c
  revert c k1 k2 k3
  generalize (cn (⟨(t : Rat) / b, 0⟩ : El 2)).1 = u
  generalize (cn (⟨(t : Rat) / b, 0⟩ : El 2)).2.1 = v
  generalize (cn (⟨(t : Rat) / b, 0⟩ : El 2)).2.2 = s
  intro c k1 k2 k3
  have hbr : ((b : Int) : Rat) ≠ 0 := rcast_ne hb
  have eu : u * b = t * s := by
    have h1 : (u : Rat) = (t : Rat) / b * s := c.hp
    have h2 : ((u * b : Int) : Rat) = ((t * s : Int) : Rat) := by
      rw [Rat.intCast_mul, Rat.intCast_mul, h1]; grind
    exact Rat.intCast_inj.mp h2
  obtain ⟨hu, w', a', ew⟩ := root_parts hb c.pos ht eu a
  have mo : IntMulOk u s := mulOk_b (Nat.lt_of_le_of_lt k2 (Nat.pow_lt_pow_right (by decide) (by decide))) (Nat.lt_of_le_of_lt k1 (Nat.pow_lt_pow_right (by decide) (by decide)))
  have hs := c.pos
  refine fSeq_split fun R hR => ?_
  dsimp only [fPar2, fSeq, fIfS, fRet, fRetN, fDrop, fAsg, fName, fGseq, fGtup, fGcons, fGnil, fVar, fK, f1, f2, fNil, fCons, fTup, fLst, fCall, fCall0, fCallG, fCallK, fCallK0, fRaise, fTry, tryX, fTest, gNot, gAnd, gOr, hAnd, hOr, hNot, fIf, fPar2, fPar3, fSkip, fNever, fBrk, fCnt, fIt, fItT, fItL, fFor, forL, startD, entry, pick, D.isNon,
  DL.lt', DL.le', DL.gt', DL.ge', fSl, fPart, fNo, List.map_cons, List.map_nil, List.length_cons, List.length_nil, List.append_nil, List.nil_append, List.cons_append, List.getElem?_cons_zero, List.getElem?_cons_succ, List.set_cons_zero, List.set_cons_succ, List.replicate_succ, List.replicate_zero, List.filterMap_cons, List.filterMap_nil, Nat.zero_add, Nat.reduceAdd, if_true, if_false, Bool.false_eq_true]
  simp only [Nat.sub_self, Nat.reduceSub, List.replicate_zero, List.map_cons, List.map_nil, List.cons_append, List.nil_append, List.append_nil, List.getElem?_cons_zero, List.getElem?_cons_succ, List.set_cons_zero, List.set_cons_succ, List.length_cons, List.length_nil, Nat.zero_add, Nat.reduceAdd, Nat.reduceLT, Nat.reduceLeDiff, ev_ix0t, ev_ix2t]
  refine ⟨by trivial, by trivial, ?_⟩
  rw [hR]; clear hR R
  dsimp only [fSeq, fIfS, fRet, fRetN, fDrop, fAsg, fName, fGseq, fGtup, fGcons, fGnil, fVar, fK, f1, f2, fNil, fCons, fTup, fLst, fCall, fCall0, fCallG, fCallK, fCallK0, fRaise, fTry, tryX, fTest, gNot, gAnd, gOr, hAnd, hOr, hNot, fIf, fPar2, fPar3, fSkip, fNever, fBrk, fCnt, fIt, fItT, fItL, fFor, forL, startD, entry, pick, D.isNon,
  DL.lt', DL.le', DL.gt', DL.ge', fSl, fPart, fNo, List.map_cons, List.map_nil, List.length_cons, List.length_nil, List.append_nil, List.nil_append, List.cons_append, List.getElem?_cons_zero, List.getElem?_cons_succ, List.set_cons_zero, List.set_cons_succ, List.replicate_succ, List.replicate_zero, List.filterMap_cons, List.filterMap_nil, Nat.zero_add, Nat.reduceAdd, if_true, if_false, Bool.false_eq_true]
  simp only [Nat.sub_self, Nat.reduceSub, List.replicate_zero, List.map_cons, List.map_nil, List.cons_append, List.nil_append, List.append_nil, List.getElem?_cons_zero, List.getElem?_cons_succ, List.set_cons_zero, List.set_cons_succ, List.length_cons, List.length_nil, Nat.zero_add, Nat.reduceAdd, Nat.reduceLT, Nat.reduceLeDiff, ev_eq_int, Bool.false_xor, hu, decide_false, Bool.false_eq_true, if_false, ev_mul, mo, true_and]
  refine num_made_go q x (by omega) (Nat.lt_of_le_of_lt k1 (Nat.pow_lt_pow_right (by decide) (by decide))) (by decide) (Int.mul_ne_zero hu (by omega)) ?_ a'.w1 a'.eq a'.sf ?_
  · rw [Int.natAbs_mul]
    refine Nat.lt_of_le_of_lt (Nat.mul_le_mul k2 k1) ?_
    rw [← Nat.pow_add]
    exact Nat.pow_lt_pow_right (by decide) (by decide)
  · rw [tv_eq ew]; exact h
end

end K01

set_option exponentiation.threshold 10000
namespace K01
open PySem PySem.Spec PyProof.Rows L2 DL DN
section
variable (q : D → Prop) (x : XD)
theorem root_of_nil {b : Int} (hb : b ≠ 0) (hbb : b.natAbs ≤ 2 ^ 1000) (h : q c_NIL) : fn_root_of [.int 0, .int b] q x := by
  rw [fn_root_of_eq]; unfold g_root_of
  refine ⟨rfl, ?_⟩
  refine fSeq_split fun R hR => ?_
  dsimp only [fSeq, fIfS, fRet, fRetN, fDrop, fAsg, fName, fGseq, fGtup, fGcons, fGnil, fVar, fK, f1, f2, fNil, fCons, fTup, fLst, fCall, fCall0, fCallG, fCallK, fCallK0, fRaise, fTry, tryX, fTest, gNot, gAnd, gOr, hAnd, hOr, hNot, fIf, fPar2, fPar3, fSkip, fNever, fBrk, fCnt, fIt, fItT, fItL, fFor, forL, startD, entry, pick, D.isNon,
  DL.lt', DL.le', DL.gt', DL.ge', fSl, fPart, fNo, List.map_cons, List.map_nil, List.length_cons, List.length_nil, List.append_nil, List.nil_append, List.cons_append, List.getElem?_cons_zero, List.getElem?_cons_succ, List.set_cons_zero, List.set_cons_succ, List.replicate_succ, List.replicate_zero, List.filterMap_cons, List.filterMap_nil, Nat.zero_add, Nat.reduceAdd, if_true, if_false, Bool.false_eq_true]
  simp only [Nat.sub_self, Nat.reduceSub, List.replicate_zero, List.map_cons, List.map_nil, List.cons_append, List.nil_append, List.append_nil, List.getElem?_cons_zero, List.getElem?_cons_succ, List.set_cons_zero, List.set_cons_succ, List.length_cons, List.length_nil, Nat.zero_add, Nat.reduceAdd, Nat.reduceLT, Nat.reduceLeDiff]
  refine is_whole_int _ _ 0 ?_
  simp only [Bool.not_true, Bool.false_eq_true, if_false]
  refine is_whole_int _ _ b ?_
  simp only [Bool.not_true, Bool.false_eq_true, if_false, ev_eq_int, Bool.false_xor, hb, decide_false]
  rw [hR]; clear hR R
  dsimp only [fSeq, fIfS, fRet, fRetN, fDrop, fAsg, fName, fGseq, fGtup, fGcons, fGnil, fVar, fK, f1, f2, fNil, fCons, fTup, fLst, fCall, fCall0, fCallG, fCallK, fCallK0, fRaise, fTry, tryX, fTest, gNot, gAnd, gOr, hAnd, hOr, hNot, fIf, fPar2, fPar3, fSkip, fNever, fBrk, fCnt, fIt, fItT, fItL, fFor, forL, startD, entry, pick, D.isNon,
  DL.lt', DL.le', DL.gt', DL.ge', fSl, fPart, fNo, List.map_cons, List.map_nil, List.length_cons, List.length_nil, List.append_nil, List.nil_append, List.cons_append, List.getElem?_cons_zero, List.getElem?_cons_succ, List.set_cons_zero, List.set_cons_succ, List.replicate_succ, List.replicate_zero, List.filterMap_cons, List.filterMap_nil, Nat.zero_add, Nat.reduceAdd, if_true, if_false, Bool.false_eq_true]
  have nm : ∀ (q : D → Prop) (x : XD), q (nd (0 : El 2)) → fn_num [.int 0, .int b] q x := fun q x h => by
    rw [fn_num_eq]; unfold g_num
    refine ⟨rfl, ?_⟩
    dsimp only [fSeq, fIfS, fRet, fRetN, fDrop, fAsg, fName, fGseq, fGtup, fGcons, fGnil, fVar, fK, f1, f2, fNil, fCons, fTup, fLst, fCall, fCall0, fCallG, fCallK, fCallK0, fRaise, fTry, tryX, fTest, gNot, gAnd, gOr, hAnd, hOr, hNot, fIf, fPar2, fPar3, fSkip, fNever, fBrk, fCnt, fIt, fItT, fItL, fFor, forL, startD, entry, pick, D.isNon,
  DL.lt', DL.le', DL.gt', DL.ge', fSl, fPart, fNo, List.map_cons, List.map_nil, List.length_cons, List.length_nil, List.append_nil, List.nil_append, List.cons_append, List.getElem?_cons_zero, List.getElem?_cons_succ, List.set_cons_zero, List.set_cons_succ, List.replicate_succ, List.replicate_zero, List.filterMap_cons, List.filterMap_nil, Nat.zero_add, Nat.reduceAdd, if_true, if_false, Bool.false_eq_true]
    show fn_lowered _ _ _
    have z : ∀ y : Rat, ((0 : Int) : Rat) = 0 * y := fun y => by
      have : ((0 : Int) : Rat) = 0 := rfl
      rw [this]; grind
    rw [lowered_eq (d := 2) (e := (0 : El 2)) q x hb (z _) (z _) (Nat.lt_of_le_of_lt hbb (Nat.pow_lt_pow_right (by decide) (by decide))) (fun z => absurd rfl z)]
    exact h
  refine nm _ _ ?_
  rw [nd_zero, fn_num_root_eq]; unfold g_num_root
  refine ⟨rfl, ?_⟩
  refine fSeq_split fun R hR => ?_
  dsimp only [fPar2, fSeq, fIfS, fRet, fRetN, fDrop, fAsg, fName, fGseq, fGtup, fGcons, fGnil, fVar, fK, f1, f2, fNil, fCons, fTup, fLst, fCall, fCall0, fCallG, fCallK, fCallK0, fRaise, fTry, tryX, fTest, gNot, gAnd, gOr, hAnd, hOr, hNot, fIf, fPar2, fPar3, fSkip, fNever, fBrk, fCnt, fIt, fItT, fItL, fFor, forL, startD, entry, pick, D.isNon,
  DL.lt', DL.le', DL.gt', DL.ge', fSl, fPart, fNo, List.map_cons, List.map_nil, List.length_cons, List.length_nil, List.append_nil, List.nil_append, List.cons_append, List.getElem?_cons_zero, List.getElem?_cons_succ, List.set_cons_zero, List.set_cons_succ, List.replicate_succ, List.replicate_zero, List.filterMap_cons, List.filterMap_nil, Nat.zero_add, Nat.reduceAdd, if_true, if_false, Bool.false_eq_true]
  simp only [Nat.sub_self, Nat.reduceSub, List.replicate_zero, List.map_cons, List.map_nil, List.cons_append, List.nil_append, List.append_nil, List.getElem?_cons_zero, List.getElem?_cons_succ, List.set_cons_zero, List.set_cons_succ, List.length_cons, List.length_nil, Nat.zero_add, Nat.reduceAdd, Nat.reduceLT, Nat.reduceLeDiff, ev_ix0t, ev_ix2t]
  refine ⟨by trivial, by trivial, ?_⟩
  rw [hR]; clear hR R
  dsimp only [fSeq, fIfS, fRet, fRetN, fDrop, fAsg, fName, fGseq, fGtup, fGcons, fGnil, fVar, fK, f1, f2, fNil, fCons, fTup, fLst, fCall, fCall0, fCallG, fCallK, fCallK0, fRaise, fTry, tryX, fTest, gNot, gAnd, gOr, hAnd, hOr, hNot, fIf, fPar2, fPar3, fSkip, fNever, fBrk, fCnt, fIt, fItT, fItL, fFor, forL, startD, entry, pick, D.isNon,
  DL.lt', DL.le', DL.gt', DL.ge', fSl, fPart, fNo, List.map_cons, List.map_nil, List.length_cons, List.length_nil, List.append_nil, List.nil_append, List.cons_append, List.getElem?_cons_zero, List.getElem?_cons_succ, List.set_cons_zero, List.set_cons_succ, List.replicate_succ, List.replicate_zero, List.filterMap_cons, List.filterMap_nil, Nat.zero_add, Nat.reduceAdd, if_true, if_false, Bool.false_eq_true]
  simp only [Nat.sub_self, Nat.reduceSub, List.replicate_zero, List.map_cons, List.map_nil, List.cons_append, List.nil_append, List.append_nil, List.getElem?_cons_zero, List.getElem?_cons_succ, List.set_cons_zero, List.set_cons_succ, List.length_cons, List.length_nil, Nat.zero_add, Nat.reduceAdd, Nat.reduceLT, Nat.reduceLeDiff, ev_eq_int, Bool.false_xor, decide_true, if_true]
  exact h
/-! ### asked, due -/
abbrev asksL : List ((Str → Bool) × (Str → D → D)) := [(fun n => isErr n "BadNumber", fun n t => (.tup [(.str "bad"), t, (.bl (isErr n "StepError"))]))]
def tried (q : D → Prop) : XD := fun n t => n ∈ errL ∧ tryX q asksL n t
theorem isErr_1 : isErr "BadNumber" "BadNumber" = true ∧ isErr "BadNumber" "StepError" = true := by decide +kernel
theorem tried_bad {t : D} (h : q (.tup [.str "bad", t, .bl true])) : tried q "BadNumber" t := by
  obtain ⟨e1, e2⟩ := isErr_1
  refine ⟨by decide +kernel, ?_⟩
  unfold tryX
  simp only [e1, e2, if_true]
  exact h
theorem asked2 (a b : D) (w : Int) (h : fn_root_of [a, b] (fun t => q (.tup [.str "told", t])) (tried q)) : fn__law_asked [.tup [a, b], .int w] q x := by
  rw [fn__law_asked_eq]; unfold g__law_asked
  refine ⟨rfl, ?_⟩
  show fSeq _ _ _ ({ entry false q x with x := tried q } : DEnds)
  obtain ⟨E, hE⟩ : ∃ E, E = ({ entry false q x with x := tried q } : DEnds) := ⟨_, rfl⟩
  have e1 : E.rt = q := by rw [hE]
  have e2 : E.x = tried q := by rw [hE]
  rw [← hE]
  clear hE
  have l2 : (2 ≤ LN) = True := eq_true (LNle (by decide))
  refine fSeq_split fun R hR => ?_
  clear hR
  dsimp only [fSeq, fIfS, fRet, fRetN, fDrop, fAsg, fName, fGseq, fGtup, fGcons, fGnil, fVar, fK, f1, f2, fNil, fCons, fTup, fLst, fCall, fCall0, fCallG, fCallK, fCallK0, fRaise, fTry, tryX, fTest, gNot, gAnd, gOr, hAnd, hOr, hNot, fIf, fPar2, fPar3, fSkip, fNever, fBrk, fCnt, fIt, fItT, fItL, fFor, forL, startD, entry, pick, D.isNon,
  DL.lt', DL.le', DL.gt', DL.ge', fSl, fPart, fNo, List.map_cons, List.map_nil, List.length_cons, List.length_nil, List.append_nil, List.nil_append, List.cons_append, List.getElem?_cons_zero, List.getElem?_cons_succ, List.set_cons_zero, List.set_cons_succ, List.replicate_succ, List.replicate_zero, List.filterMap_cons, List.filterMap_nil, Nat.zero_add, Nat.reduceAdd, if_true, if_false, Bool.false_eq_true]
  simp only [Nat.sub_self, Nat.reduceSub, List.replicate_zero, List.map_cons, List.map_nil, List.cons_append, List.nil_append, List.append_nil, List.getElem?_cons_zero, List.getElem?_cons_succ, List.set_cons_zero, List.set_cons_succ, List.length_cons, List.length_nil, Nat.zero_add, Nat.reduceAdd, Nat.reduceLT, Nat.reduceLeDiff, ev_len_tup, ev_eq_int, Bool.false_xor, show decide (((2 : Nat) : Int) = 2) = true from rfl, if_true, ev_ix0t, ev_ix1t, l2, true_and, e1, e2, decide_eq_true_eq]
  split
  · exact h
  · first | exact h | exact ⟨trivial, trivial, h⟩
theorem asked4 (a b c e : D) (w : Int) (h : fn_number_of [a, b, c, e] (fun t => q (.tup [.str "told", t])) (tried q)) : fn__law_asked [.tup [a, b, c, e], .int w] q x := by
  rw [fn__law_asked_eq]; unfold g__law_asked
  refine ⟨rfl, ?_⟩
  show fSeq _ _ _ ({ entry false q x with x := tried q } : DEnds)
  obtain ⟨E, hE⟩ : ∃ E, E = ({ entry false q x with x := tried q } : DEnds) := ⟨_, rfl⟩
  have e1 : E.rt = q := by rw [hE]
  have e2 : E.x = tried q := by rw [hE]
  rw [← hE]
  clear hE
  have l2 : (2 ≤ LN) = True := eq_true (LNle (by decide))
  refine fSeq_split fun R hR => ?_
  dsimp only [fSeq, fIfS, fRet, fRetN, fDrop, fAsg, fName, fGseq, fGtup, fGcons, fGnil, fVar, fK, f1, f2, fNil, fCons, fTup, fLst, fCall, fCall0, fCallG, fCallK, fCallK0, fRaise, fTry, tryX, fTest, gNot, gAnd, gOr, hAnd, hOr, hNot, fIf, fPar2, fPar3, fSkip, fNever, fBrk, fCnt, fIt, fItT, fItL, fFor, forL, startD, entry, pick, D.isNon,
  DL.lt', DL.le', DL.gt', DL.ge', fSl, fPart, fNo, List.map_cons, List.map_nil, List.length_cons, List.length_nil, List.append_nil, List.nil_append, List.cons_append, List.getElem?_cons_zero, List.getElem?_cons_succ, List.set_cons_zero, List.set_cons_succ, List.replicate_succ, List.replicate_zero, List.filterMap_cons, List.filterMap_nil, Nat.zero_add, Nat.reduceAdd, if_true, if_false, Bool.false_eq_true]
  simp only [Nat.sub_self, Nat.reduceSub, List.replicate_zero, List.map_cons, List.map_nil, List.cons_append, List.nil_append, List.append_nil, List.getElem?_cons_zero, List.getElem?_cons_succ, List.set_cons_zero, List.set_cons_succ, List.length_cons, List.length_nil, Nat.zero_add, Nat.reduceAdd, Nat.reduceLT, Nat.reduceLeDiff, ev_len_tup, ev_eq_int, Bool.false_xor, show decide (((4 : Nat) : Int) = 2) = false from rfl, Bool.false_eq_true, if_false]
  rw [hR]; clear hR R
  refine fSeq_split fun R hR => ?_
  dsimp only [fSeq, fIfS, fRet, fRetN, fDrop, fAsg, fName, fGseq, fGtup, fGcons, fGnil, fVar, fK, f1, f2, fNil, fCons, fTup, fLst, fCall, fCall0, fCallG, fCallK, fCallK0, fRaise, fTry, tryX, fTest, gNot, gAnd, gOr, hAnd, hOr, hNot, fIf, fPar2, fPar3, fSkip, fNever, fBrk, fCnt, fIt, fItT, fItL, fFor, forL, startD, entry, pick, D.isNon,
  DL.lt', DL.le', DL.gt', DL.ge', fSl, fPart, fNo, List.map_cons, List.map_nil, List.length_cons, List.length_nil, List.append_nil, List.nil_append, List.cons_append, List.getElem?_cons_zero, List.getElem?_cons_succ, List.set_cons_zero, List.set_cons_succ, List.replicate_succ, List.replicate_zero, List.filterMap_cons, List.filterMap_nil, Nat.zero_add, Nat.reduceAdd, if_true, if_false, Bool.false_eq_true]
  simp only [Nat.sub_self, Nat.reduceSub, List.replicate_zero, List.map_cons, List.map_nil, List.cons_append, List.nil_append, List.append_nil, List.getElem?_cons_zero, List.getElem?_cons_succ, List.set_cons_zero, List.set_cons_succ, List.length_cons, List.length_nil, Nat.zero_add, Nat.reduceAdd, Nat.reduceLT, Nat.reduceLeDiff]
  refine ⟨trivial, by decide, by decide, by decide, by decide, trivial, ?_⟩
  rw [hR]; clear hR R
  dsimp only [fSeq, fIfS, fRet, fRetN, fDrop, fAsg, fName, fGseq, fGtup, fGcons, fGnil, fVar, fK, f1, f2, fNil, fCons, fTup, fLst, fCall, fCall0, fCallG, fCallK, fCallK0, fRaise, fTry, tryX, fTest, gNot, gAnd, gOr, hAnd, hOr, hNot, fIf, fPar2, fPar3, fSkip, fNever, fBrk, fCnt, fIt, fItT, fItL, fFor, forL, startD, entry, pick, D.isNon,
  DL.lt', DL.le', DL.gt', DL.ge', fSl, fPart, fNo, List.map_cons, List.map_nil, List.length_cons, List.length_nil, List.append_nil, List.nil_append, List.cons_append, List.getElem?_cons_zero, List.getElem?_cons_succ, List.set_cons_zero, List.set_cons_succ, List.replicate_succ, List.replicate_zero, List.filterMap_cons, List.filterMap_nil, Nat.zero_add, Nat.reduceAdd, if_true, if_false, Bool.false_eq_true]
  simp only [Nat.sub_self, Nat.reduceSub, List.replicate_zero, List.map_cons, List.map_nil, List.cons_append, List.nil_append, List.append_nil, List.getElem?_cons_zero, List.getElem?_cons_succ, List.set_cons_zero, List.set_cons_succ, List.length_cons, List.length_nil, Nat.zero_add, Nat.reduceAdd, Nat.reduceLT, Nat.reduceLeDiff, ev_eq_int, Bool.false_xor, l2, true_and, e1, e2, decide_eq_true_eq]
  split
  · exact h
  · first | exact h | exact ⟨trivial, trivial, h⟩
end

end K01

set_option exponentiation.threshold 10000
namespace K01
open PySem PySem.Spec PyProof.Rows L2 DL DN
section
variable (q : D → Prop) (x : XD)
theorem ones_nil {l : List D} : decide ((l.filter fun a => !isI a).map (fun _ => D.int 1) = []) = l.all isI := by
  rw [Bool.eq_iff_iff, decide_eq_true_eq, List.map_eq_nil_iff, List.filter_eq_nil_iff, List.all_eq_true]
  exact ⟨fun h a ha => by simpa using h a ha, fun h a ha => by simpa using h a ha⟩
theorem due4_bad (a b c e : D) (ho : D.oksR [a, b, c, e] = true) (hb : [a, b, c, e].all isI = false ∨ c = .int 0 ∨ e = .int 0) (h : q (.tup [.str "bad", .tup [a, b, c, e], .bl true])) : fn__law_due [.tup [a, b, c, e]] q x := by
  rw [fn__law_due_eq]; unfold g__law_due
  refine ⟨rfl, ?_⟩
  refine fSeq_split fun R hR => ?_
  clear hR
  dsimp only [fLc, fSeq, fIfS, fRet, fRetN, fDrop, fAsg, fName, fGseq, fGtup, fGcons, fGnil, fVar, fK, f1, f2, fNil, fCons, fTup, fLst, fCall, fCall0, fCallG, fCallK, fCallK0, fRaise, fTry, tryX, fTest, gNot, gAnd, gOr, hAnd, hOr, hNot, fIf, fPar2, fPar3, fSkip, fNever, fBrk, fCnt, fIt, fItT, fItL, fFor, forL, startD, entry, pick, D.isNon,
  DL.lt', DL.le', DL.gt', DL.ge', fSl, fPart, fNo, List.map_cons, List.map_nil, List.length_cons, List.length_nil, List.append_nil, List.nil_append, List.cons_append, List.getElem?_cons_zero, List.getElem?_cons_succ, List.set_cons_zero, List.set_cons_succ, List.replicate_succ, List.replicate_zero, List.filterMap_cons, List.filterMap_nil, Nat.zero_add, Nat.reduceAdd, if_true, if_false, Bool.false_eq_true]
  simp only [Nat.sub_self, Nat.reduceSub, List.replicate_zero, List.map_cons, List.map_nil, List.cons_append, List.nil_append, List.append_nil, List.getElem?_cons_zero, List.getElem?_cons_succ, List.set_cons_zero, List.set_cons_succ, List.length_cons, List.length_nil, Nat.zero_add, Nat.reduceAdd, Nat.reduceLT, Nat.reduceLeDiff]
  show lcL _ _ _ _ _ _ _ [a, b, c, e] []
  refine lc_filter (fun a => !isI a) (fun _ => .int 1) _ [] (fun u h' nx hx => ⟨show (1 : Nat) < 6 by decide, is_integer_any _ _ u (okR_mem ho u h') (hx _ fun q' hq => hq)⟩) (LNle (Nat.le_of_ble_eq_true rfl)) ?_
  refine ⟨LNle (by decide), ?_⟩
  rw [List.nil_append, eq_lst_nil _ _ _ _ (ones_ok _).1 (Nat.le_trans (Nat.add_le_add_right (ones_ok _).2 1) (by decide)), ones_nil, Bool.true_xor]
  have l3 := LNle (n := 3) (by decide)
  generalize hA : [a, b, c, e].all isI = t at hb ⊢
  cases t with
  | false =>
    simp only [Bool.not_false, if_true]
    exact ⟨l3, h⟩
  | true =>
    rw [List.all_eq_true] at hA
    simp only [Bool.not_true, Bool.false_eq_true, if_false]
    obtain ⟨i, rfl⟩ := isI_int (hA c (by simp))
    obtain ⟨j, rfl⟩ := isI_int (hA e (by simp))
    simp only [ev_neg, ev_ix_tup _ _ (show atI [a, b, D.int i, D.int j] (-1) = some (.int j) from rfl), ev_ix_tup _ _ (show atI [a, b, D.int i, D.int j] 2 = some (.int i) from rfl), ev_len_tup, ev_eq_int, Bool.false_xor, decide_eq_true_eq, List.length_cons, List.length_nil, show (((0 + 1 + 1 + 1 + 1 : Nat) : Int) = 4) = True from eq_true rfl, if_true]
    by_cases hj : j = 0
    · rw [if_pos hj]; exact ⟨l3, h⟩
    · rw [if_neg hj]
      by_cases hi : i = 0
      · rw [if_pos hi]; exact ⟨l3, h⟩
      · rcases hb with z | z | z
        · cases z
        · injection z with z; exact absurd z hi
        · injection z with z; exact absurd z hj
theorem due2_bad (c e : D) (ho : D.oksR [c, e] = true) (hb : [c, e].all isI = false ∨ e = .int 0) (h : q (.tup [.str "bad", .tup [c, e], .bl true])) : fn__law_due [.tup [c, e]] q x := by
  rw [fn__law_due_eq]; unfold g__law_due
  refine ⟨rfl, ?_⟩
  refine fSeq_split fun R hR => ?_
  clear hR
  dsimp only [fLc, fSeq, fIfS, fRet, fRetN, fDrop, fAsg, fName, fGseq, fGtup, fGcons, fGnil, fVar, fK, f1, f2, fNil, fCons, fTup, fLst, fCall, fCall0, fCallG, fCallK, fCallK0, fRaise, fTry, tryX, fTest, gNot, gAnd, gOr, hAnd, hOr, hNot, fIf, fPar2, fPar3, fSkip, fNever, fBrk, fCnt, fIt, fItT, fItL, fFor, forL, startD, entry, pick, D.isNon,
  DL.lt', DL.le', DL.gt', DL.ge', fSl, fPart, fNo, List.map_cons, List.map_nil, List.length_cons, List.length_nil, List.append_nil, List.nil_append, List.cons_append, List.getElem?_cons_zero, List.getElem?_cons_succ, List.set_cons_zero, List.set_cons_succ, List.replicate_succ, List.replicate_zero, List.filterMap_cons, List.filterMap_nil, Nat.zero_add, Nat.reduceAdd, if_true, if_false, Bool.false_eq_true]
  simp only [Nat.sub_self, Nat.reduceSub, List.replicate_zero, List.map_cons, List.map_nil, List.cons_append, List.nil_append, List.append_nil, List.getElem?_cons_zero, List.getElem?_cons_succ, List.set_cons_zero, List.set_cons_succ, List.length_cons, List.length_nil, Nat.zero_add, Nat.reduceAdd, Nat.reduceLT, Nat.reduceLeDiff]
  show lcL _ _ _ _ _ _ _ [c, e] []
  refine lc_filter (fun a => !isI a) (fun _ => .int 1) _ [] (fun u h' nx hx => ⟨show (1 : Nat) < 6 by decide, is_integer_any _ _ u (okR_mem ho u h') (hx _ fun q' hq => hq)⟩) (LNle (Nat.le_of_ble_eq_true rfl)) ?_
  refine ⟨LNle (by decide), ?_⟩
  rw [List.nil_append, eq_lst_nil _ _ _ _ (ones_ok _).1 (Nat.le_trans (Nat.add_le_add_right (ones_ok _).2 1) (by decide)), ones_nil, Bool.true_xor]
  have l3 := LNle (n := 3) (by decide)
  generalize hA : [c, e].all isI = t at hb ⊢
  cases t with
  | false =>
    simp only [Bool.not_false, if_true]
    exact ⟨l3, h⟩
  | true =>
    rw [List.all_eq_true] at hA
    simp only [Bool.not_true, Bool.false_eq_true, if_false]
    obtain ⟨j, rfl⟩ := isI_int (hA e (by simp))
    simp only [ev_neg, ev_ix_tup _ _ (show atI [c, D.int j] (-1) = some (.int j) from rfl), ev_eq_int, Bool.false_xor, decide_eq_true_eq]
    by_cases hj : j = 0
    · rw [if_pos hj]; exact ⟨l3, h⟩
    · rcases hb with z | z
      · cases z
      · injection z with z; exact absurd z hj
theorem due4_go {p r s d l : Int} {w : Nat} (hs : s ≠ 0) (hbs : s.natAbs < 2 ^ 9000) (hbr : r.natAbs < 2 ^ 3000) (h0 : d ≠ 0) (hb : d.natAbs < 2 ^ 3000) (a : Prt d l w) (h : q (.tup [.str "told", tv p r s l w])) : fn__law_due [.tup [.int p, .int r, .int s, .int d]] q x := by
  rw [fn__law_due_eq]; unfold g__law_due
  refine ⟨rfl, ?_⟩
  obtain ⟨E, hE⟩ : ∃ E, E = entry false q x := ⟨_, rfl⟩
  have e1 : E.rt = q := by rw [hE]
  have e2 : E.x = x := by rw [hE]
  rw [← hE]
  clear hE
  refine fSeq_split fun R hR => ?_
  dsimp only [fLc, fSeq, fIfS, fRet, fRetN, fDrop, fAsg, fName, fGseq, fGtup, fGcons, fGnil, fVar, fK, f1, f2, fNil, fCons, fTup, fLst, fCall, fCall0, fCallG, fCallK, fCallK0, fRaise, fTry, tryX, fTest, gNot, gAnd, gOr, hAnd, hOr, hNot, fIf, fPar2, fPar3, fSkip, fNever, fBrk, fCnt, fIt, fItT, fItL, fFor, forL, startD, entry, pick, D.isNon,
  DL.lt', DL.le', DL.gt', DL.ge', fSl, fPart, fNo, List.map_cons, List.map_nil, List.length_cons, List.length_nil, List.append_nil, List.nil_append, List.cons_append, List.getElem?_cons_zero, List.getElem?_cons_succ, List.set_cons_zero, List.set_cons_succ, List.replicate_succ, List.replicate_zero, List.filterMap_cons, List.filterMap_nil, Nat.zero_add, Nat.reduceAdd, if_true, if_false, Bool.false_eq_true]
  simp only [Nat.sub_self, Nat.reduceSub, List.replicate_zero, List.map_cons, List.map_nil, List.cons_append, List.nil_append, List.append_nil, List.getElem?_cons_zero, List.getElem?_cons_succ, List.set_cons_zero, List.set_cons_succ, List.length_cons, List.length_nil, Nat.zero_add, Nat.reduceAdd, Nat.reduceLT, Nat.reduceLeDiff]
  show lcL _ _ _ _ _ _ _ [.int p, .int r, .int s, .int d] []
  refine lc_filter (fun a => !isI a) (fun _ => .int 1) _ [] (fun u h' nx hx => ⟨show (1 : Nat) < 6 by decide, is_integer_any _ _ u (okR_mem (l := [.int p, .int r, .int s, .int d]) rfl u h') (hx _ fun q' hq => hq)⟩) (LNle (Nat.le_of_ble_eq_true rfl)) ?_
  refine ⟨LNle (by decide), ?_⟩
  rw [List.nil_append, eq_lst_nil _ _ _ _ (ones_ok _).1 (Nat.le_trans (Nat.add_le_add_right (ones_ok _).2 1) (by decide)), ones_nil, Bool.true_xor, show [D.int p, .int r, .int s, .int d].all isI = true from rfl]
  simp only [Bool.not_true, Bool.false_eq_true, if_false]
  simp only [ev_neg, ev_ix_tup _ _ (show atI [D.int p, D.int r, D.int s, D.int d] (-1) = some (.int d) from rfl), ev_ix_tup _ _ (show atI [D.int p, D.int r, D.int s, D.int d] 2 = some (.int s) from rfl), ev_len_tup, ev_eq_int, Bool.false_xor, List.length_cons, List.length_nil, show decide (((0 + 1 + 1 + 1 + 1 : Nat) : Int) = 4) = true from rfl, if_true, h0, hs, decide_false, Bool.false_eq_true, if_false]
  rw [hR]; clear hR R
  refine fSeq_split fun R hR => fIfS_split fun A B hA hB => ?_
  dsimp only [fSeq, fIfS, fRet, fRetN, fDrop, fAsg, fName, fGseq, fGtup, fGcons, fGnil, fVar, fK, f1, f2, fNil, fCons, fTup, fLst, fCall, fCall0, fCallG, fCallK, fCallK0, fRaise, fTry, tryX, fTest, gNot, gAnd, gOr, hAnd, hOr, hNot, fIf, fPar2, fPar3, fSkip, fNever, fBrk, fCnt, fIt, fItT, fItL, fFor, forL, startD, entry, pick, D.isNon,
  DL.lt', DL.le', DL.gt', DL.ge', fSl, fPart, fNo, List.map_cons, List.map_nil, List.length_cons, List.length_nil, List.append_nil, List.nil_append, List.cons_append, List.getElem?_cons_zero, List.getElem?_cons_succ, List.set_cons_zero, List.set_cons_succ, List.replicate_succ, List.replicate_zero, List.filterMap_cons, List.filterMap_nil, Nat.zero_add, Nat.reduceAdd, if_true, if_false, Bool.false_eq_true]
  simp only [Nat.sub_self, Nat.reduceSub, List.replicate_zero, List.map_cons, List.map_nil, List.cons_append, List.nil_append, List.append_nil, List.getElem?_cons_zero, List.getElem?_cons_succ, List.set_cons_zero, List.set_cons_succ, List.length_cons, List.length_nil, Nat.zero_add, Nat.reduceAdd, Nat.reduceLT, Nat.reduceLeDiff, ev_len_tup, ev_eq_int, Bool.false_xor, show decide (((4 : Nat) : Int) = 4) = true from rfl, if_true]
  rw [hA]; clear hA hB A B hR
  refine fSeq_split fun R2 hR2 => ?_
  dsimp only [fSeq, fIfS, fRet, fRetN, fDrop, fAsg, fName, fGseq, fGtup, fGcons, fGnil, fVar, fK, f1, f2, fNil, fCons, fTup, fLst, fCall, fCall0, fCallG, fCallK, fCallK0, fRaise, fTry, tryX, fTest, gNot, gAnd, gOr, hAnd, hOr, hNot, fIf, fPar2, fPar3, fSkip, fNever, fBrk, fCnt, fIt, fItT, fItL, fFor, forL, startD, entry, pick, D.isNon,
  DL.lt', DL.le', DL.gt', DL.ge', fSl, fPart, fNo, List.map_cons, List.map_nil, List.length_cons, List.length_nil, List.append_nil, List.nil_append, List.cons_append, List.getElem?_cons_zero, List.getElem?_cons_succ, List.set_cons_zero, List.set_cons_succ, List.replicate_succ, List.replicate_zero, List.filterMap_cons, List.filterMap_nil, Nat.zero_add, Nat.reduceAdd, if_true, if_false, Bool.false_eq_true]
  simp only [Nat.sub_self, Nat.reduceSub, List.replicate_zero, List.map_cons, List.map_nil, List.cons_append, List.nil_append, List.append_nil, List.getElem?_cons_zero, List.getElem?_cons_succ, List.set_cons_zero, List.set_cons_succ, List.length_cons, List.length_nil, Nat.zero_add, Nat.reduceAdd, Nat.reduceLT, Nat.reduceLeDiff, ev_ix_tup _ _ (show atI [D.int p, D.int r, D.int s, D.int d] 3 = some (.int d) from rfl)]
  refine parted_at _ _ h0 hb a ?_
  refine ⟨by trivial, by decide, by decide, by trivial, ?_⟩
  rw [hR2]; clear hR2 R2
  have wd := (a.le h0).2.2
  have mo : IntMulOk r (w : Int) := mulOk_b (Nat.lt_of_lt_of_le hbr (Nat.pow_le_pow_right (by decide) (by decide))) (by rw [Int.natAbs_natCast]; exact Nat.lt_of_le_of_lt wd (Nat.lt_of_lt_of_le hb (Nat.pow_le_pow_right (by decide) (by decide))))
  dsimp only [fSeq, fIfS, fRet, fRetN, fDrop, fAsg, fName, fGseq, fGtup, fGcons, fGnil, fVar, fK, f1, f2, fNil, fCons, fTup, fLst, fCall, fCall0, fCallG, fCallK, fCallK0, fRaise, fTry, tryX, fTest, gNot, gAnd, gOr, hAnd, hOr, hNot, fIf, fPar2, fPar3, fSkip, fNever, fBrk, fCnt, fIt, fItT, fItL, fFor, forL, startD, entry, pick, D.isNon,
  DL.lt', DL.le', DL.gt', DL.ge', fSl, fPart, fNo, List.map_cons, List.map_nil, List.length_cons, List.length_nil, List.append_nil, List.nil_append, List.cons_append, List.getElem?_cons_zero, List.getElem?_cons_succ, List.set_cons_zero, List.set_cons_succ, List.replicate_succ, List.replicate_zero, List.filterMap_cons, List.filterMap_nil, Nat.zero_add, Nat.reduceAdd, if_true, if_false, Bool.false_eq_true]
  simp only [Nat.sub_self, Nat.reduceSub, List.replicate_zero, List.map_cons, List.map_nil, List.cons_append, List.nil_append, List.append_nil, List.getElem?_cons_zero, List.getElem?_cons_succ, List.set_cons_zero, List.set_cons_succ, List.length_cons, List.length_nil, Nat.zero_add, Nat.reduceAdd, Nat.reduceLT, Nat.reduceLeDiff, ev_ix0t, ev_ix1t, ev_ix2t, ev_mul, mo, true_and]
  refine law_tv _ _ hs hbs ⟨LNle (by decide), ?_⟩
  rw [e1]
  exact h
end

end K01

set_option exponentiation.threshold 10000
namespace K01
open PySem PySem.Spec PyProof.Rows L2 DL DN
section
variable (q : D → Prop) (x : XD)
theorem due2_any (t b : Int) (hb : b ≠ 0) (h1 : t = 0 → q (.tup [.str "told", c_NIL])) (h2 : ∀ l w, t ≠ 0 → Prt (t * b) l w → q (.tup [.str "told", tv 0 1 (b.natAbs : Int) l w])) (hbt : t.natAbs ≤ 2 ^ 1000) (hbb : b.natAbs ≤ 2 ^ 1000) : fn__law_due [.tup [.int t, .int b]] q x := by
  rw [fn__law_due_eq]; unfold g__law_due
  refine ⟨rfl, ?_⟩
  obtain ⟨E, hE⟩ : ∃ E, E = entry false q x := ⟨_, rfl⟩
  have e1 : E.rt = q := by rw [hE]
  have e2 : E.x = x := by rw [hE]
  rw [← hE]
  clear hE
  refine fSeq_split fun R hR => ?_
  dsimp only [fLc, fSeq, fIfS, fRet, fRetN, fDrop, fAsg, fName, fGseq, fGtup, fGcons, fGnil, fVar, fK, f1, f2, fNil, fCons, fTup, fLst, fCall, fCall0, fCallG, fCallK, fCallK0, fRaise, fTry, tryX, fTest, gNot, gAnd, gOr, hAnd, hOr, hNot, fIf, fPar2, fPar3, fSkip, fNever, fBrk, fCnt, fIt, fItT, fItL, fFor, forL, startD, entry, pick, D.isNon,
  DL.lt', DL.le', DL.gt', DL.ge', fSl, fPart, fNo, List.map_cons, List.map_nil, List.length_cons, List.length_nil, List.append_nil, List.nil_append, List.cons_append, List.getElem?_cons_zero, List.getElem?_cons_succ, List.set_cons_zero, List.set_cons_succ, List.replicate_succ, List.replicate_zero, List.filterMap_cons, List.filterMap_nil, Nat.zero_add, Nat.reduceAdd, if_true, if_false, Bool.false_eq_true]
  simp only [Nat.sub_self, Nat.reduceSub, List.replicate_zero, List.map_cons, List.map_nil, List.cons_append, List.nil_append, List.append_nil, List.getElem?_cons_zero, List.getElem?_cons_succ, List.set_cons_zero, List.set_cons_succ, List.length_cons, List.length_nil, Nat.zero_add, Nat.reduceAdd, Nat.reduceLT, Nat.reduceLeDiff]
  show lcL _ _ _ _ _ _ _ [.int t, .int b] []
  refine lc_filter (fun a => !isI a) (fun _ => .int 1) _ [] (fun u h' nx hx => ⟨show (1 : Nat) < 6 by decide, is_integer_any _ _ u (okR_mem (l := [.int t, .int b]) rfl u h') (hx _ fun q' hq => hq)⟩) (LNle (Nat.le_of_ble_eq_true rfl)) ?_
  refine ⟨LNle (by decide), ?_⟩
  rw [List.nil_append, eq_lst_nil _ _ _ _ (ones_ok _).1 (Nat.le_trans (Nat.add_le_add_right (ones_ok _).2 1) (by decide)), ones_nil, Bool.true_xor, show [D.int t, .int b].all isI = true from rfl]
  simp only [Bool.not_true, Bool.false_eq_true, if_false]
  simp only [ev_neg, ev_ix_tup _ _ (show atI [D.int t, D.int b] (-1) = some (.int b) from rfl), ev_len_tup, ev_eq_int, Bool.false_xor, List.length_cons, List.length_nil, show decide (((0 + 1 + 1 : Nat) : Int) = 4) = false from rfl, hb, decide_false, Bool.false_eq_true, if_false]
  rw [hR]; clear hR R
  refine fSeq_split fun R hR => fIfS_split fun A B hA hB => ?_
  clear hA
  dsimp only [fSeq, fIfS, fRet, fRetN, fDrop, fAsg, fName, fGseq, fGtup, fGcons, fGnil, fVar, fK, f1, f2, fNil, fCons, fTup, fLst, fCall, fCall0, fCallG, fCallK, fCallK0, fRaise, fTry, tryX, fTest, gNot, gAnd, gOr, hAnd, hOr, hNot, fIf, fPar2, fPar3, fSkip, fNever, fBrk, fCnt, fIt, fItT, fItL, fFor, forL, startD, entry, pick, D.isNon,
  DL.lt', DL.le', DL.gt', DL.ge', fSl, fPart, fNo, List.map_cons, List.map_nil, List.length_cons, List.length_nil, List.append_nil, List.nil_append, List.cons_append, List.getElem?_cons_zero, List.getElem?_cons_succ, List.set_cons_zero, List.set_cons_succ, List.replicate_succ, List.replicate_zero, List.filterMap_cons, List.filterMap_nil, Nat.zero_add, Nat.reduceAdd, if_true, if_false, Bool.false_eq_true]
  simp only [Nat.sub_self, Nat.reduceSub, List.replicate_zero, List.map_cons, List.map_nil, List.cons_append, List.nil_append, List.append_nil, List.getElem?_cons_zero, List.getElem?_cons_succ, List.set_cons_zero, List.set_cons_succ, List.length_cons, List.length_nil, Nat.zero_add, Nat.reduceAdd, Nat.reduceLT, Nat.reduceLeDiff, ev_len_tup, ev_eq_int, Bool.false_xor, show decide (((2 : Nat) : Int) = 4) = false from rfl, Bool.false_eq_true, if_false]
  rw [hB]; clear hB A B
  dsimp only [fSeq, fIfS, fRet, fRetN, fDrop, fAsg, fName, fGseq, fGtup, fGcons, fGnil, fVar, fK, f1, f2, fNil, fCons, fTup, fLst, fCall, fCall0, fCallG, fCallK, fCallK0, fRaise, fTry, tryX, fTest, gNot, gAnd, gOr, hAnd, hOr, hNot, fIf, fPar2, fPar3, fSkip, fNever, fBrk, fCnt, fIt, fItT, fItL, fFor, forL, startD, entry, pick, D.isNon,
  DL.lt', DL.le', DL.gt', DL.ge', fSl, fPart, fNo, List.map_cons, List.map_nil, List.length_cons, List.length_nil, List.append_nil, List.nil_append, List.cons_append, List.getElem?_cons_zero, List.getElem?_cons_succ, List.set_cons_zero, List.set_cons_succ, List.replicate_succ, List.replicate_zero, List.filterMap_cons, List.filterMap_nil, Nat.zero_add, Nat.reduceAdd, if_true, if_false, Bool.false_eq_true]
  rw [hR]; clear hR R
  refine fSeq_split fun R hR => ?_
  dsimp only [fSeq, fIfS, fRet, fRetN, fDrop, fAsg, fName, fGseq, fGtup, fGcons, fGnil, fVar, fK, f1, f2, fNil, fCons, fTup, fLst, fCall, fCall0, fCallG, fCallK, fCallK0, fRaise, fTry, tryX, fTest, gNot, gAnd, gOr, hAnd, hOr, hNot, fIf, fPar2, fPar3, fSkip, fNever, fBrk, fCnt, fIt, fItT, fItL, fFor, forL, startD, entry, pick, D.isNon,
  DL.lt', DL.le', DL.gt', DL.ge', fSl, fPart, fNo, List.map_cons, List.map_nil, List.length_cons, List.length_nil, List.append_nil, List.nil_append, List.cons_append, List.getElem?_cons_zero, List.getElem?_cons_succ, List.set_cons_zero, List.set_cons_succ, List.replicate_succ, List.replicate_zero, List.filterMap_cons, List.filterMap_nil, Nat.zero_add, Nat.reduceAdd, if_true, if_false, Bool.false_eq_true]
  simp only [Nat.sub_self, Nat.reduceSub, List.replicate_zero, List.map_cons, List.map_nil, List.cons_append, List.nil_append, List.append_nil, List.getElem?_cons_zero, List.getElem?_cons_succ, List.set_cons_zero, List.set_cons_succ, List.length_cons, List.length_nil, Nat.zero_add, Nat.reduceAdd, Nat.reduceLT, Nat.reduceLeDiff]
  refine ⟨by trivial, by decide, by decide, by trivial, ?_⟩
  rw [hR]; clear hR R
  refine fSeq_split fun R hR => ?_
  dsimp only [fSeq, fIfS, fRet, fRetN, fDrop, fAsg, fName, fGseq, fGtup, fGcons, fGnil, fVar, fK, f1, f2, fNil, fCons, fTup, fLst, fCall, fCall0, fCallG, fCallK, fCallK0, fRaise, fTry, tryX, fTest, gNot, gAnd, gOr, hAnd, hOr, hNot, fIf, fPar2, fPar3, fSkip, fNever, fBrk, fCnt, fIt, fItT, fItL, fFor, forL, startD, entry, pick, D.isNon,
  DL.lt', DL.le', DL.gt', DL.ge', fSl, fPart, fNo, List.map_cons, List.map_nil, List.length_cons, List.length_nil, List.append_nil, List.nil_append, List.cons_append, List.getElem?_cons_zero, List.getElem?_cons_succ, List.set_cons_zero, List.set_cons_succ, List.replicate_succ, List.replicate_zero, List.filterMap_cons, List.filterMap_nil, Nat.zero_add, Nat.reduceAdd, if_true, if_false, Bool.false_eq_true]
  simp only [Nat.sub_self, Nat.reduceSub, List.replicate_zero, List.map_cons, List.map_nil, List.cons_append, List.nil_append, List.append_nil, List.getElem?_cons_zero, List.getElem?_cons_succ, List.set_cons_zero, List.set_cons_succ, List.length_cons, List.length_nil, Nat.zero_add, Nat.reduceAdd, Nat.reduceLT, Nat.reduceLeDiff, ev_eq_int, Bool.false_xor, decide_eq_true_eq]
  by_cases ht : t = 0
  · rw [if_pos ht, e1]
    exact ⟨LNle (by decide), LNle (by decide), h1 ht⟩
  rw [if_neg ht, hR]; clear hR R
  have h0 : t * b ≠ 0 := Int.mul_ne_zero ht hb
  have up : ∀ {i : Int}, i.natAbs ≤ 2 ^ 1000 → i.natAbs < 2 ^ 9000 := fun h => Nat.lt_of_le_of_lt h (Nat.pow_lt_pow_right (by decide) (by decide))
  obtain ⟨l, w, a⟩ := parts_ex _ (t * b) rfl h0
  have hb3 : (t * b).natAbs < 2 ^ 3000 := by
    rw [Int.natAbs_mul]
    refine Nat.lt_of_le_of_lt (Nat.mul_le_mul hbt hbb) ?_
    rw [← Nat.pow_add]
    exact Nat.pow_lt_pow_right (by decide) (by decide)
  refine fSeq_split fun R hR => ?_
  dsimp only [fSeq, fIfS, fRet, fRetN, fDrop, fAsg, fName, fGseq, fGtup, fGcons, fGnil, fVar, fK, f1, f2, fNil, fCons, fTup, fLst, fCall, fCall0, fCallG, fCallK, fCallK0, fRaise, fTry, tryX, fTest, gNot, gAnd, gOr, hAnd, hOr, hNot, fIf, fPar2, fPar3, fSkip, fNever, fBrk, fCnt, fIt, fItT, fItL, fFor, forL, startD, entry, pick, D.isNon,
  DL.lt', DL.le', DL.gt', DL.ge', fSl, fPart, fNo, List.map_cons, List.map_nil, List.length_cons, List.length_nil, List.append_nil, List.nil_append, List.cons_append, List.getElem?_cons_zero, List.getElem?_cons_succ, List.set_cons_zero, List.set_cons_succ, List.replicate_succ, List.replicate_zero, List.filterMap_cons, List.filterMap_nil, Nat.zero_add, Nat.reduceAdd, if_true, if_false, Bool.false_eq_true]
  simp only [Nat.sub_self, Nat.reduceSub, List.replicate_zero, List.map_cons, List.map_nil, List.cons_append, List.nil_append, List.append_nil, List.getElem?_cons_zero, List.getElem?_cons_succ, List.set_cons_zero, List.set_cons_succ, List.length_cons, List.length_nil, Nat.zero_add, Nat.reduceAdd, Nat.reduceLT, Nat.reduceLeDiff, ev_mul, mulOk_b (up hbt) (up hbb), true_and]
  refine parted_at _ _ h0 hb3 a ?_
  rw [hR]; clear hR R
  dsimp only [fSeq, fIfS, fRet, fRetN, fDrop, fAsg, fName, fGseq, fGtup, fGcons, fGnil, fVar, fK, f1, f2, fNil, fCons, fTup, fLst, fCall, fCall0, fCallG, fCallK, fCallK0, fRaise, fTry, tryX, fTest, gNot, gAnd, gOr, hAnd, hOr, hNot, fIf, fPar2, fPar3, fSkip, fNever, fBrk, fCnt, fIt, fItT, fItL, fFor, forL, startD, entry, pick, D.isNon,
  DL.lt', DL.le', DL.gt', DL.ge', fSl, fPart, fNo, List.map_cons, List.map_nil, List.length_cons, List.length_nil, List.append_nil, List.nil_append, List.cons_append, List.getElem?_cons_zero, List.getElem?_cons_succ, List.set_cons_zero, List.set_cons_succ, List.replicate_succ, List.replicate_zero, List.filterMap_cons, List.filterMap_nil, Nat.zero_add, Nat.reduceAdd, if_true, if_false, Bool.false_eq_true]
  simp only [Nat.sub_self, Nat.reduceSub, List.replicate_zero, List.map_cons, List.map_nil, List.cons_append, List.nil_append, List.append_nil, List.getElem?_cons_zero, List.getElem?_cons_succ, List.set_cons_zero, List.set_cons_succ, List.length_cons, List.length_nil, Nat.zero_add, Nat.reduceAdd, Nat.reduceLT, Nat.reduceLeDiff, ev_abs, absI_nat]
  have hw : (1 : Int) * (w : Int) = (w : Int) := Int.one_mul _
  rw [← hw]
  refine ⟨by trivial, by trivial, ?_⟩
  refine law_tv (s := (b.natAbs : Int)) _ _ (by omega) (by rw [Int.natAbs_natCast]; exact Nat.lt_of_le_of_lt hbb (Nat.pow_lt_pow_right (by decide) (by decide))) ?_
  refine ⟨LNle (by decide), ?_⟩
  rw [e1]
  exact h2 l w ht a
/-- draws -/
theorem for_root_go (h : ∀ t b : Int, t.natAbs ≤ 90000 → b.natAbs ≤ 90000 → b ≠ 0 → q (.tup [.int t, .int b])) : fn__law_for_root [] q x := by
  rw [fn__law_for_root_eq]; unfold g__law_for_root
  refine ⟨rfl, fun a => ?_⟩
  obtain ⟨E, hE⟩ : ∃ E, E = entry false q x := ⟨_, rfl⟩
  have e1 : E.rt = q := by rw [hE]
  have e2 : E.x = x := by rw [hE]
  rw [← hE]
  clear hE
  refine fSeq_split fun R hR => ?_
  simp only [fSeq, fIfS, fRet, fRetN, fDrop, fAsg, fName, fGseq, fGtup, fGcons, fGnil, fVar, fK, f1, f2, fNil, fCons, fTup, fLst, fCall, fCall0, fCallG, fCallK, fCallK0, fRaise, fTry, tryX, fTest, gNot, gAnd, gOr, hAnd, hOr, hNot, fIf, fPar2, fPar3, fSkip, fNever, fBrk, fCnt, fIt, fItT, fItL, fFor, forL, startD, entry, pick, D.isNon,
  DL.lt', DL.le', DL.gt', DL.ge', fSl, fPart, fNo, List.map_cons, List.map_nil, List.length_cons, List.length_nil, List.append_nil, List.nil_append, List.cons_append, List.getElem?_cons_zero, List.getElem?_cons_succ, List.set_cons_zero, List.set_cons_succ, List.replicate_succ, List.replicate_zero, List.filterMap_cons, List.filterMap_nil, Nat.zero_add, Nat.reduceAdd, if_true, if_false, Bool.false_eq_true, Nat.sub_self, Nat.reduceSub, List.replicate_zero, List.map_cons, List.map_nil, List.cons_append, List.nil_append, List.append_nil, List.getElem?_cons_zero, List.getElem?_cons_succ, List.set_cons_zero, List.set_cons_succ, List.length_cons, List.length_nil, Nat.zero_add, Nat.reduceAdd, Nat.reduceLT, Nat.reduceLeDiff, e1, e2]
  refine ⟨LNle (by decide), trivial, pick_go _ _ _ (by simp) (show 4 < 1073741824 by decide) fun z hz => ?_⟩
  have : ∃ i : Int, z = .int i ∧ 1 ≤ i ∧ i ≤ 999 := by
    simp at hz
    rcases hz with e | e | e | e <;> exact ⟨_, e, by decide, by decide⟩
  obtain ⟨n, rfl, n1, n2⟩ := this
  clear hz
  rw [hR]; clear hR R
  refine ⟨trivial, ?_⟩
  refine fSeq_split fun R hR => ?_
  simp only [fPar2, fSeq, fIfS, fRet, fRetN, fDrop, fAsg, fName, fGseq, fGtup, fGcons, fGnil, fVar, fK, f1, f2, fNil, fCons, fTup, fLst, fCall, fCall0, fCallG, fCallK, fCallK0, fRaise, fTry, tryX, fTest, gNot, gAnd, gOr, hAnd, hOr, hNot, fIf, fPar2, fPar3, fSkip, fNever, fBrk, fCnt, fIt, fItT, fItL, fFor, forL, startD, entry, pick, D.isNon,
  DL.lt', DL.le', DL.gt', DL.ge', fSl, fPart, fNo, List.map_cons, List.map_nil, List.length_cons, List.length_nil, List.append_nil, List.nil_append, List.cons_append, List.getElem?_cons_zero, List.getElem?_cons_succ, List.set_cons_zero, List.set_cons_succ, List.replicate_succ, List.replicate_zero, List.filterMap_cons, List.filterMap_nil, Nat.zero_add, Nat.reduceAdd, if_true, if_false, Bool.false_eq_true, Nat.sub_self, Nat.reduceSub, List.replicate_zero, List.map_cons, List.map_nil, List.cons_append, List.nil_append, List.append_nil, List.getElem?_cons_zero, List.getElem?_cons_succ, List.set_cons_zero, List.set_cons_succ, List.length_cons, List.length_nil, Nat.zero_add, Nat.reduceAdd, Nat.reduceLT, Nat.reduceLeDiff, e1, e2]
  refine ⟨trivial, draw_go _ _ _ (by decide) (by decide) fun u u0 u1 => ?_⟩
  rw [ev_add_int]
  refine ⟨trivial, draw_go _ _ _ (by decide) (by decide) fun v v0 v1 => ?_⟩
  rw [ev_add_int]
  refine ⟨trivial, trivial, ?_⟩
  rw [hR]; clear hR R
  simp only [fSeq, fIfS, fRet, fRetN, fDrop, fAsg, fName, fGseq, fGtup, fGcons, fGnil, fVar, fK, f1, f2, fNil, fCons, fTup, fLst, fCall, fCall0, fCallG, fCallK, fCallK0, fRaise, fTry, tryX, fTest, gNot, gAnd, gOr, hAnd, hOr, hNot, fIf, fPar2, fPar3, fSkip, fNever, fBrk, fCnt, fIt, fItT, fItL, fFor, forL, startD, entry, pick, D.isNon,
  DL.lt', DL.le', DL.gt', DL.ge', fSl, fPart, fNo, List.map_cons, List.map_nil, List.length_cons, List.length_nil, List.append_nil, List.nil_append, List.cons_append, List.getElem?_cons_zero, List.getElem?_cons_succ, List.set_cons_zero, List.set_cons_succ, List.replicate_succ, List.replicate_zero, List.filterMap_cons, List.filterMap_nil, Nat.zero_add, Nat.reduceAdd, if_true, if_false, Bool.false_eq_true, Nat.sub_self, Nat.reduceSub, List.replicate_zero, List.map_cons, List.map_nil, List.cons_append, List.nil_append, List.append_nil, List.getElem?_cons_zero, List.getElem?_cons_succ, List.set_cons_zero, List.set_cons_succ, List.length_cons, List.length_nil, Nat.zero_add, Nat.reduceAdd, Nat.reduceLT, Nat.reduceLeDiff, e1, e2, ev_neg]
  refine ⟨trivial, near_go _ _ _ (by omega) (by omega) fun t t0 t1 => ?_⟩
  have sm : ∀ {i : Int}, -100000 ≤ i → i ≤ 100000 → ∀ j : Int, IntMulOk i j := fun h1 h2 j => mulOk_l (by omega) (by omega)
  have sm' : ∀ {i : Int}, -100000 ≤ i → i ≤ 100000 → ∀ j : Int, IntMulOk j i := fun h1 h2 j => mulOk_r (by omega) (by omega)
  simp only [ev_mul, sm' (i := 1 + u) (by omega) (by omega), true_and]
  refine draw_go _ _ _ (by omega) (by omega) fun b b0 b1 => ?_
  simp only [ev_add_int, ev_mul, sm' (i := 1 + v) (by omega) (by omega), true_and]
  refine ⟨LNle (by decide), pick_go _ _ _ (by simp) (show 3 < 1073741824 by decide) fun z hz => ?_⟩
  have : ∃ i : Int, z = .int i ∧ i.natAbs = 1 := by
    simp at hz
    rcases hz with e | e <;> exact ⟨_, e, by decide⟩
  obtain ⟨g, rfl, g1⟩ := this
  simp only [ev_mul, sm' (i := g) (by omega) (by omega), true_and]
  have abs : ∀ (i j : Int) (m : Nat), i.natAbs ≤ m → j.natAbs ≤ 9 → (i * j * j).natAbs ≤ m * 81 := fun i j m h1 h2 => by
    rw [Int.natAbs_mul, Int.natAbs_mul]
    exact Nat.le_trans (Nat.mul_le_mul (Nat.mul_le_mul h1 h2) h2) (by omega)
  refine ⟨LNle (by decide), h _ _ ?_ ?_ ?_⟩
  · have := abs t (1 + u) 999 (by omega) (by omega)
    omega
  · have := abs (1 + b) (1 + v) 1000 (by omega) (by omega)
    rw [Int.natAbs_mul, g1]
    omega
  · refine Int.mul_ne_zero (Int.mul_ne_zero (Int.mul_ne_zero (by omega) (by omega)) (by omega)) (by omega)
end

end K01

set_option exponentiation.threshold 10000
namespace K01
open PySem PySem.Spec PyProof.Rows L2 DL DN
section
variable (q : D → Prop) (x : XD)
theorem ok_wide {n : Int} (h1 : 1 ≤ n) (h2 : n ≤ 10 ^ 29) : n.natAbs ≤ 10 ^ 29 := by omega
theorem wide_go (h : ∀ p r s d : Int, p.natAbs ≤ 10 ^ 30 → r.natAbs ≤ 10 ^ 30 → s.natAbs ≤ 10 ^ 30 → d.natAbs ≤ 10 ^ 8 → s ≠ 0 → d ≠ 0 → q (.tup [.int p, .int r, .int s, .int d])) : fn__law_wide [] q x := by
  rw [fn__law_wide_eq]; unfold g__law_wide
  refine ⟨rfl, fun a => ?_⟩
  obtain ⟨E, hE⟩ : ∃ E, E = entry false q x := ⟨_, rfl⟩
  have e1 : E.rt = q := by rw [hE]
  have e2 : E.x = x := by rw [hE]
  rw [← hE]
  clear hE
  have c8 : CPow 10 8 := ⟨by decide, by decide, by decide⟩
  have c29 : CPow 10 29 := ⟨by decide, by decide, by decide⟩
  have c4 : CPow 10 4 := ⟨by decide, by decide, by decide⟩
  refine fSeq_split fun R hR => ?_
  simp only [fSeq, fIfS, fRet, fRetN, fDrop, fAsg, fName, fGseq, fGtup, fGcons, fGnil, fVar, fK, f1, f2, fNil, fCons, fTup, fLst, fCall, fCall0, fCallG, fCallK, fCallK0, fRaise, fTry, tryX, fTest, gNot, gAnd, gOr, hAnd, hOr, hNot, fIf, fPar2, fPar3, fSkip, fNever, fBrk, fCnt, fIt, fItT, fItL, fFor, forL, startD, entry, pick, D.isNon,
  DL.lt', DL.le', DL.gt', DL.ge', fSl, fPart, fNo, List.map_cons, List.map_nil, List.length_cons, List.length_nil, List.append_nil, List.nil_append, List.cons_append, List.getElem?_cons_zero, List.getElem?_cons_succ, List.set_cons_zero, List.set_cons_succ, List.replicate_succ, List.replicate_zero, List.filterMap_cons, List.filterMap_nil, Nat.zero_add, Nat.reduceAdd, if_true, if_false, Bool.false_eq_true, Nat.sub_self, Nat.reduceSub, List.replicate_zero, List.map_cons, List.map_nil, List.cons_append, List.nil_append, List.append_nil, List.getElem?_cons_zero, List.getElem?_cons_succ, List.set_cons_zero, List.set_cons_succ, List.length_cons, List.length_nil, Nat.zero_add, Nat.reduceAdd, Nat.reduceLT, Nat.reduceLeDiff, e1, e2, ev_pow, c8, c29, true_and]
  refine ⟨LNle (by decide), pick_go _ _ _ (by simp) (show 5 < 1073741824 by decide) fun z hz => ?_⟩
  have : ∃ i : Int, z = .int i ∧ 1 ≤ i ∧ i ≤ 10 ^ 29 := by
    simp at hz
    rcases hz with e | e | e | e <;> exact ⟨_, e, by decide, by decide⟩
  obtain ⟨n, rfl, n1, n2⟩ := this
  clear hz
  rw [hR]; clear hR R
  have pm : ∀ (l : List Int) (q : D → Prop), l ≠ [] → l.length ≤ 10 → (∀ g ∈ l, g.natAbs ≤ 1) → (∀ g : Int, g ∈ l → q (.int g)) → fn__law_pick [.lst (l.map D.int)] q x := fun l q l0 ll hl hq => pick_go _ _ _ (by simpa using l0) (by rw [List.length_map]; omega) fun b hb => by
    obtain ⟨g, hg, rfl⟩ := List.mem_map.mp hb
    exact hq g hg
  have one : ∀ (i g : Int), g.natAbs ≤ 1 → IntMulOk i g := fun i g hg => mulOk_r (by omega) (by omega)
  refine fSeq_split fun R hR => ?_
  simp only [fPar2, fSeq, fIfS, fRet, fRetN, fDrop, fAsg, fName, fGseq, fGtup, fGcons, fGnil, fVar, fK, f1, f2, fNil, fCons, fTup, fLst, fCall, fCall0, fCallG, fCallK, fCallK0, fRaise, fTry, tryX, fTest, gNot, gAnd, gOr, hAnd, hOr, hNot, fIf, fPar2, fPar3, fSkip, fNever, fBrk, fCnt, fIt, fItT, fItL, fFor, forL, startD, entry, pick, D.isNon,
  DL.lt', DL.le', DL.gt', DL.ge', fSl, fPart, fNo, List.map_cons, List.map_nil, List.length_cons, List.length_nil, List.append_nil, List.nil_append, List.cons_append, List.getElem?_cons_zero, List.getElem?_cons_succ, List.set_cons_zero, List.set_cons_succ, List.replicate_succ, List.replicate_zero, List.filterMap_cons, List.filterMap_nil, Nat.zero_add, Nat.reduceAdd, if_true, if_false, Bool.false_eq_true, Nat.sub_self, Nat.reduceSub, List.replicate_zero, List.map_cons, List.map_nil, List.cons_append, List.nil_append, List.append_nil, List.getElem?_cons_zero, List.getElem?_cons_succ, List.set_cons_zero, List.set_cons_succ, List.length_cons, List.length_nil, Nat.zero_add, Nat.reduceAdd, Nat.reduceLT, Nat.reduceLeDiff, true_and, e1, e2, ev_neg]
  refine great_go _ _ _ n1 fun p p0 p1 => ⟨LNle (by decide), pm [1, -1] _ (by simp) (by decide) (by decide) fun g1 hg1 => ?_⟩
  rw [ev_mul]
  refine ⟨one _ _ ((by decide : ∀ g ∈ [(1 : Int), -1], g.natAbs ≤ 1) g1 hg1), great_go _ _ _ n1 fun r r0 r1 => ⟨LNle (by decide), pm [1, -1, 0] _ (by simp) (by decide) (by decide) fun g2 hg2 => ?_⟩⟩
  rw [ev_mul]
  refine ⟨one _ _ ((by decide : ∀ g ∈ [(1 : Int), -1, 0], g.natAbs ≤ 1) g2 hg2), ?_⟩
  rw [hR]; clear hR R
  refine fSeq_split fun R hR => ?_
  simp only [fSeq, fIfS, fRet, fRetN, fDrop, fAsg, fName, fGseq, fGtup, fGcons, fGnil, fVar, fK, f1, f2, fNil, fCons, fTup, fLst, fCall, fCall0, fCallG, fCallK, fCallK0, fRaise, fTry, tryX, fTest, gNot, gAnd, gOr, hAnd, hOr, hNot, fIf, fPar2, fPar3, fSkip, fNever, fBrk, fCnt, fIt, fItT, fItL, fFor, forL, startD, entry, pick, D.isNon,
  DL.lt', DL.le', DL.gt', DL.ge', fSl, fPart, fNo, List.map_cons, List.map_nil, List.length_cons, List.length_nil, List.append_nil, List.nil_append, List.cons_append, List.getElem?_cons_zero, List.getElem?_cons_succ, List.set_cons_zero, List.set_cons_succ, List.replicate_succ, List.replicate_zero, List.filterMap_cons, List.filterMap_nil, Nat.zero_add, Nat.reduceAdd, if_true, if_false, Bool.false_eq_true, Nat.sub_self, Nat.reduceSub, List.replicate_zero, List.map_cons, List.map_nil, List.cons_append, List.nil_append, List.append_nil, List.getElem?_cons_zero, List.getElem?_cons_succ, List.set_cons_zero, List.set_cons_succ, List.length_cons, List.length_nil, Nat.zero_add, Nat.reduceAdd, Nat.reduceLT, Nat.reduceLeDiff, true_and, e1, e2, ev_neg]
  refine ⟨LNle (by decide), pick_go _ _ _ (by simp) (show 4 < 1073741824 by decide) fun z hz => ?_⟩
  have : ∃ i : Int, z = .int i ∧ 1 ≤ i ∧ i ≤ 10 ^ 29 := by
    simp at hz
    rcases hz with e | e | e | e
    · exact ⟨_, e, by decide, by decide⟩
    · exact ⟨_, e, by decide, by decide⟩
    · exact ⟨_, e, by decide, by decide⟩
    · exact ⟨_, e, n1, n2⟩
  obtain ⟨m, rfl, m1, m2⟩ := this
  clear hz
  refine great_go _ _ _ m1 fun s s0 s1 => ?_
  rw [ev_add_int]
  refine ⟨LNle (by decide), pm [1, 1, -1] _ (by simp) (by decide) (by decide) fun g3 hg3 => ?_⟩
  rw [ev_mul]
  have G3 : g3.natAbs = 1 := (by decide : ∀ g ∈ [(1 : Int), 1, -1], g.natAbs = 1) g3 hg3
  refine ⟨one _ _ (by omega), ?_⟩
  rw [hR]; clear hR R
  refine fSeq_split fun R hR => ?_
  simp only [fPar2, fSeq, fIfS, fRet, fRetN, fDrop, fAsg, fName, fGseq, fGtup, fGcons, fGnil, fVar, fK, f1, f2, fNil, fCons, fTup, fLst, fCall, fCall0, fCallG, fCallK, fCallK0, fRaise, fTry, tryX, fTest, gNot, gAnd, gOr, hAnd, hOr, hNot, fIf, fPar2, fPar3, fSkip, fNever, fBrk, fCnt, fIt, fItT, fItL, fFor, forL, startD, entry, pick, D.isNon,
  DL.lt', DL.le', DL.gt', DL.ge', fSl, fPart, fNo, List.map_cons, List.map_nil, List.length_cons, List.length_nil, List.append_nil, List.nil_append, List.cons_append, List.getElem?_cons_zero, List.getElem?_cons_succ, List.set_cons_zero, List.set_cons_succ, List.replicate_succ, List.replicate_zero, List.filterMap_cons, List.filterMap_nil, Nat.zero_add, Nat.reduceAdd, if_true, if_false, Bool.false_eq_true, Nat.sub_self, Nat.reduceSub, List.replicate_zero, List.map_cons, List.map_nil, List.cons_append, List.nil_append, List.append_nil, List.getElem?_cons_zero, List.getElem?_cons_succ, List.set_cons_zero, List.set_cons_succ, List.length_cons, List.length_nil, Nat.zero_add, Nat.reduceAdd, Nat.reduceLT, Nat.reduceLeDiff, e1, e2, ev_pow, c4, true_and]
  refine ⟨LNle (by decide), pick_go _ _ _ (by simp) (show 4 < 1073741824 by decide) fun z hz => ?_⟩
  have : ∃ i : Int, z = .int i ∧ 1 ≤ i ∧ i ≤ 10000 := by
    simp at hz
    rcases hz with e | e | e | e <;> exact ⟨_, e, by decide, by decide⟩
  obtain ⟨k, rfl, k1, k2⟩ := this
  clear hz
  refine draw_go _ _ _ k1 (by omega) fun u u0 u1 => ?_
  rw [ev_add_int]
  refine ⟨LNle (by decide), pick_go _ _ _ (by simp) (show 3 < 1073741824 by decide) fun z hz => ?_⟩
  have : ∃ i : Int, z = .int i ∧ 1 ≤ i ∧ i ≤ 100 := by
    simp at hz
    rcases hz with e | e | e <;> exact ⟨_, e, by decide, by decide⟩
  obtain ⟨j, rfl, j1, j2⟩ := this
  clear hz
  refine draw_go _ _ _ j1 (by omega) fun v v0 v1 => ?_
  rw [ev_add_int]
  rw [hR]; clear hR R
  refine fSeq_split fun R hR => ?_
  simp only [fSeq, fIfS, fRet, fRetN, fDrop, fAsg, fName, fGseq, fGtup, fGcons, fGnil, fVar, fK, f1, f2, fNil, fCons, fTup, fLst, fCall, fCall0, fCallG, fCallK, fCallK0, fRaise, fTry, tryX, fTest, gNot, gAnd, gOr, hAnd, hOr, hNot, fIf, fPar2, fPar3, fSkip, fNever, fBrk, fCnt, fIt, fItT, fItL, fFor, forL, startD, entry, pick, D.isNon,
  DL.lt', DL.le', DL.gt', DL.ge', fSl, fPart, fNo, List.map_cons, List.map_nil, List.length_cons, List.length_nil, List.append_nil, List.nil_append, List.cons_append, List.getElem?_cons_zero, List.getElem?_cons_succ, List.set_cons_zero, List.set_cons_succ, List.replicate_succ, List.replicate_zero, List.filterMap_cons, List.filterMap_nil, Nat.zero_add, Nat.reduceAdd, if_true, if_false, Bool.false_eq_true, Nat.sub_self, Nat.reduceSub, List.replicate_zero, List.map_cons, List.map_nil, List.cons_append, List.nil_append, List.append_nil, List.getElem?_cons_zero, List.getElem?_cons_succ, List.set_cons_zero, List.set_cons_succ, List.length_cons, List.length_nil, Nat.zero_add, Nat.reduceAdd, Nat.reduceLT, Nat.reduceLeDiff, true_and, e1, e2]
  refine draw_go _ _ _ (by decide) (by decide) fun y y0 y1 => ?_
  rw [ev_add_int]
  rw [hR]; clear hR R
  have mr : ∀ (i : Int) {t : Int}, 1 ≤ t → t ≤ 100000 → IntMulOk i t := fun i t h1 h2 => mulOk_r (by omega) (by omega)
  simp only [fSeq, fIfS, fRet, fRetN, fDrop, fAsg, fName, fGseq, fGtup, fGcons, fGnil, fVar, fK, f1, f2, fNil, fCons, fTup, fLst, fCall, fCall0, fCallG, fCallK, fCallK0, fRaise, fTry, tryX, fTest, gNot, gAnd, gOr, hAnd, hOr, hNot, fIf, fPar2, fPar3, fSkip, fNever, fBrk, fCnt, fIt, fItT, fItL, fFor, forL, startD, entry, pick, D.isNon,
  DL.lt', DL.le', DL.gt', DL.ge', fSl, fPart, fNo, List.map_cons, List.map_nil, List.length_cons, List.length_nil, List.append_nil, List.nil_append, List.cons_append, List.getElem?_cons_zero, List.getElem?_cons_succ, List.set_cons_zero, List.set_cons_succ, List.replicate_succ, List.replicate_zero, List.filterMap_cons, List.filterMap_nil, Nat.zero_add, Nat.reduceAdd, if_true, if_false, Bool.false_eq_true, Nat.sub_self, Nat.reduceSub, List.replicate_zero, List.map_cons, List.map_nil, List.cons_append, List.nil_append, List.append_nil, List.getElem?_cons_zero, List.getElem?_cons_succ, List.set_cons_zero, List.set_cons_succ, List.length_cons, List.length_nil, Nat.zero_add, Nat.reduceAdd, Nat.reduceLT, Nat.reduceLeDiff, true_and, e1, e2, ev_neg, ev_mul, mr _ (show 1 ≤ 1 + y by omega) (by omega), mr _ (show 1 ≤ 1 + v by omega) (by omega)]
  refine ⟨LNle (by decide), pm [1, 1, -1] _ (by simp) (by decide) (by decide) fun g4 hg4 => ?_⟩
  have G4 : g4.natAbs = 1 := (by decide : ∀ g ∈ [(1 : Int), 1, -1], g.natAbs = 1) g4 hg4
  have G1 := (by decide : ∀ g ∈ [(1 : Int), -1], g.natAbs ≤ 1) g1 hg1
  have G2 := (by decide : ∀ g ∈ [(1 : Int), -1, 0], g.natAbs ≤ 1) g2 hg2
  rw [ev_mul]
  refine ⟨one _ _ (by omega), LNle (by decide), ?_⟩
  have b3 : ∀ (i g t : Int), i.natAbs ≤ 10 ^ 29 → g.natAbs ≤ 1 → t.natAbs ≤ 6 → (i * g * t).natAbs ≤ 10 ^ 30 := fun i g t h1 h2 h3 => by
    rw [Int.natAbs_mul, Int.natAbs_mul]
    exact Nat.le_trans (Nat.mul_le_mul (Nat.mul_le_mul h1 h2) h3) (by decide)
  refine h _ _ _ _ (b3 _ _ _ (by omega) G1 (by omega)) (b3 _ _ _ (by omega) G2 (by omega)) (b3 _ _ _ (by omega) (by omega) (by omega)) ?_ ?_ ?_
  · rw [Int.natAbs_mul, Int.natAbs_mul, Int.natAbs_mul, G4]
    exact Nat.le_trans (Nat.mul_le_mul (Nat.mul_le_mul (Nat.mul_le_mul (show (1 + u).natAbs ≤ 10000 by omega) (show (1 + v).natAbs ≤ 100 by omega)) (show (1 + v).natAbs ≤ 100 by omega)) (Nat.le_refl 1)) (by decide)
  · exact Int.mul_ne_zero (Int.mul_ne_zero (by omega) (by omega)) (by omega)
  · exact Int.mul_ne_zero (Int.mul_ne_zero (Int.mul_ne_zero (by omega) (by omega)) (by omega)) (by omega)
end

end K01

set_option exponentiation.threshold 10000
namespace K01
open PySem PySem.Spec PyProof.Rows L2 DL DN
section
variable {d : Int} (q : D → Prop) (x : XD)
theorem one_ne : (1 : El d) ≠ 0 := fun h => by
  have : nd (1 : El d) = nd (0 : El d) := by rw [h]
  rw [nd_one, nd_zero] at this
  injection this with this
  injection this with this
  injection this with this
  exact absurd this (by decide)
theorem inv_one (h : Nsq d) : inv (1 : El d) = 1 := by
  have := mul_inv h one_ne
  have e : (1 : El d) * inv 1 = inv 1 := by grind
  rw [← e]; exact this
theorem repS {r : D} (h0 : ∃ l, r = .tup l) (ok : r.okR = true) (sh : r.shows = true) (dp : r.dep ≤ 60) (ct : r.cost ≤ 1000000) (h : q (.str r.py.shown)) : sReprT r q x := by
  obtain ⟨l, rfl⟩ := h0
  exact ⟨trivial, ok, sh, dp, ct, h⟩
theorem repPT {l : List D} {n : Nat} (h : Rp (.tup l) n) (hn : n ≤ 1000000) (hq : q (.str (D.tup l).py.shown)) : sRepr (.tup l) q x := (repS q x ⟨_, rfl⟩ h.ok h.sh (Nat.le_trans h.dp (by decide)) (Nat.le_trans h.ct hn) hq).2
theorem Rp.n3 (r : Rt d) (hd : d.natAbs < 2 ^ 1900) {a b c : El d} (ha : Sx a 900) (hb : Sx b 900) (hc : Sx c 900) : Rp (.tup [nd a, nd b, nd c]) 30000 := ((Sx.rp r hd ha (by decide)).tup3 (Sx.rp r hd hb (by decide)) (Sx.rp r hd hc (by decide)) (show 1 ≤ 9 by decide) (show 1 ≤ 9 by decide) (show 1 ≤ 9 by decide)).mono (by decide)
theorem Rp.n2 (r : Rt d) (hd : d.natAbs < 2 ^ 1900) {a b : El d} (ha : Sx a 900) (hb : Sx b 900) : Rp (.tup [nd a, nd b]) 30000 := ((Sx.rp r hd ha (by decide)).tup2 (Sx.rp r hd hb (by decide)) (show 1 ≤ 9 by decide) (show 1 ≤ 9 by decide)).mono (by decide)
theorem repNN (r : Rt d) (hd : d.natAbs < 2 ^ 1900) {a : El d} (ha : Sx a 900) (hq : q (.str (nd a).py.shown)) : sReprT (nd a) q x := by
  have h := Sx.rp r hd ha (by decide)
  rw [nd_eq] at h hq ⊢
  exact ⟨trivial, repPT q x h (by decide) hq⟩
end
theorem ends_split {b : FS} {ρ : Ro} {D : DEnds} (h : ∀ E : DEnds, E.nx = D.nx → E.rt = D.rt → E.x = D.x → b ρ E) : b ρ D := h D rfl rfl rfl

end K01

set_option exponentiation.threshold 10000
namespace K01
open PySem PySem.Spec PyProof.Rows L2 DL DN
section
variable (q : D → Prop) (x : XD)
theorem gcd_one (a : Int) : gcdI a 1 = 1 := by rw [gcdI_eq, Int.gcd_one]; rfl
theorem tv_whole (n : Nat) : tv 0 1 (((1 : Int).natAbs : Nat) : Int) 1 n = .tup [.int (n : Nat), .int 0, .int 1, .int 1] := by
  unfold tv
  rw [if_pos rfl]
  have c : Canon (⟨((0 + 1 * (n : Int) : Int) : Rat) / ((((1 : Int).natAbs : Nat) : Int) : Rat), 0⟩ : El 2) (n : Int) 0 1 := by
    refine ⟨by decide, gcd_one _, ?_, by show ((0 : Int) : Rat) = 0 * ((1 : Int) : Rat); have : ((0 : Int) : Rat) = 0 := rfl; rw [this]; grind⟩
    show ((n : Int) : Rat) = ((0 + 1 * (n : Int) : Int) : Rat) / ((1 : Int) : Rat) * ((1 : Int) : Rat)
    rw [Int.zero_add, Int.one_mul]
    exact div_mul_s (by decide)
  rw [nd_of c, if_pos rfl]
theorem tv_part (n : Nat) (hn : 1 ≤ n) : tv 0 1 ((((n : Int) * (n : Int)).natAbs : Nat) : Int) 1 n = .tup [.int 1, .int 0, .int (n : Nat), .int 1] := by
  unfold tv
  rw [if_pos rfl]
  have hnr : ((n : Int) : Rat) ≠ 0 := rcast_ne (by omega)
  have e : ((((n : Int) * (n : Int)).natAbs : Nat) : Int) = (n : Int) * (n : Int) := by rw [Int.natAbs_mul, Int.natAbs_natCast, Int.natCast_mul]
  have c : Canon (⟨((0 + 1 * (n : Int) : Int) : Rat) / (((((n : Int) * (n : Int)).natAbs : Nat) : Int) : Rat), 0⟩ : El 2) 1 0 (n : Int) := by
    refine ⟨by omega, ?_, ?_, by show ((0 : Int) : Rat) = 0 * ((n : Int) : Rat); have : ((0 : Int) : Rat) = 0 := rfl; rw [this]; grind⟩
    · rw [gcdI_eq, gcdI_eq]; simp
    · show ((1 : Int) : Rat) = ((0 + 1 * (n : Int) : Int) : Rat) / (((((n : Int) * (n : Int)).natAbs : Nat) : Int) : Rat) * ((n : Int) : Rat)
      rw [e, Int.zero_add, Int.one_mul, Rat.intCast_mul]
      have : ((1 : Int) : Rat) = 1 := rfl
      rw [this]
      grind
  rw [nd_of c, if_pos rfl]
theorem squares_right_go (h : q (.bl true)) : fn__law_are_squares_right [] q x := by
  rw [fn__law_are_squares_right_eq]; unfold g__law_are_squares_right
  refine ⟨rfl, fun a => ?_⟩
  obtain ⟨E, hE⟩ : ∃ E, E = entry false q x := ⟨_, rfl⟩
  have e1 : E.rt = q := by rw [hE]
  have e2 : E.x = x := by rw [hE]
  rw [← hE]
  clear hE
  refine fSeq_split fun R hR => ?_
  simp only [fSeq, fIfS, fRet, fRetN, fDrop, fAsg, fName, fGseq, fGtup, fGcons, fGnil, fVar, fK, f1, f2, fNil, fCons, fTup, fLst, fCall, fCall0, fCallG, fCallK, fCallK0, fRaise, fTry, tryX, fTest, gNot, gAnd, gOr, hAnd, hOr, hNot, fIf, fPar2, fPar3, fSkip, fNever, fBrk, fCnt, fIt, fItT, fItL, fFor, forL, startD, entry, pick, D.isNon,
  DL.lt', DL.le', DL.gt', DL.ge', fSl, fPart, fNo, List.map_cons, List.map_nil, List.length_cons, List.length_nil, List.append_nil, List.nil_append, List.cons_append, List.getElem?_cons_zero, List.getElem?_cons_succ, List.set_cons_zero, List.set_cons_succ, List.replicate_succ, List.replicate_zero, List.filterMap_cons, List.filterMap_nil, Nat.zero_add, Nat.reduceAdd, if_true, if_false, Bool.false_eq_true, Nat.sub_self, Nat.reduceSub, List.replicate_zero, List.map_cons, List.map_nil, List.cons_append, List.nil_append, List.append_nil, List.getElem?_cons_zero, List.getElem?_cons_succ, List.set_cons_zero, List.set_cons_succ, List.length_cons, List.length_nil, Nat.zero_add, Nat.reduceAdd, Nat.reduceLT, Nat.reduceLeDiff, true_and, e1, e2, ev_eq_int, Bool.false_xor, decide_eq_true_eq]
  have K : ∀ b : Int, 1000 ≤ b → b ≤ 999983 → R [some (.ref a), some (.int b), none, none, none, none, none, none, none, none, none] E := ?_
  · have fin : ∀ l : List Int, l ≠ [] → l.length ≤ 10 → (∀ b ∈ l, 1000 ≤ b ∧ b ≤ 999983) → ∀ (k : D → Prop) (x : XD), (∀ b : Int, 1000 ≤ b → b ≤ 999983 → k (.int b)) → fn__law_pick [.lst (l.map D.int)] k x := fun l l0 ll hl k x hk => pick_go _ _ _ (by simpa using l0) (by rw [List.length_map]; omega) fun z hz => by
      obtain ⟨b, hb, rfl⟩ := List.mem_map.mp hz
      exact hk b (hl b hb).1 (hl b hb).2
    refine draw_go _ _ _ (by decide) (by decide) fun u u0 u1 => ?_
    simp only [ev_eq_int, Bool.false_xor, decide_eq_true_eq]
    split
    · refine draw_go _ _ _ (by decide) (by decide) fun v v0 v1 => ?_
      simp only [ev_eq_int, Bool.false_xor, decide_eq_true_eq]
      split
      · exact ⟨LNle (by decide), fin [10007, 1009, 4001, 31607, 99991] (by simp) (by decide) (by decide) _ _ K⟩
      · exact ⟨LNle (by decide), fin [10007, 1009, 4001, 31607, 10009] (by simp) (by decide) (by decide) _ _ K⟩
    · refine draw_go _ _ _ (by decide) (by decide) fun v v0 v1 => ?_
      simp only [ev_eq_int, Bool.false_xor, decide_eq_true_eq]
      split
      · exact ⟨LNle (by decide), fin [10007, 1009, 4001, 2003, 99991] (by simp) (by decide) (by decide) _ _ K⟩
      · exact ⟨LNle (by decide), fin [10007, 1009, 4001, 2003, 10009] (by simp) (by decide) (by decide) _ _ K⟩
  intro b b1 b2
  rw [hR]; clear hR R
  refine fSeq_split fun R hR => ?_
  simp only [fSeq, fIfS, fRet, fRetN, fDrop, fAsg, fName, fGseq, fGtup, fGcons, fGnil, fVar, fK, f1, f2, fNil, fCons, fTup, fLst, fCall, fCall0, fCallG, fCallK, fCallK0, fRaise, fTry, tryX, fTest, gNot, gAnd, gOr, hAnd, hOr, hNot, fIf, fPar2, fPar3, fSkip, fNever, fBrk, fCnt, fIt, fItT, fItL, fFor, forL, startD, entry, pick, D.isNon,
  DL.lt', DL.le', DL.gt', DL.ge', fSl, fPart, fNo, List.map_cons, List.map_nil, List.length_cons, List.length_nil, List.append_nil, List.nil_append, List.cons_append, List.getElem?_cons_zero, List.getElem?_cons_succ, List.set_cons_zero, List.set_cons_succ, List.replicate_succ, List.replicate_zero, List.filterMap_cons, List.filterMap_nil, Nat.zero_add, Nat.reduceAdd, if_true, if_false, Bool.false_eq_true, Nat.sub_self, Nat.reduceSub, List.replicate_zero, List.map_cons, List.map_nil, List.cons_append, List.nil_append, List.append_nil, List.getElem?_cons_zero, List.getElem?_cons_succ, List.set_cons_zero, List.set_cons_succ, List.length_cons, List.length_nil, Nat.zero_add, Nat.reduceAdd, Nat.reduceLT, Nat.reduceLeDiff, true_and, e1, e2, ev_eq_int, Bool.false_xor, decide_eq_true_eq]
  refine draw_go _ _ _ (by decide) (by decide) fun u u0 u1 => ?_
  have K : ∀ b : Int, 1000 ≤ b → b ≤ 999983 → R [some (.ref a), some (.int b), none, none, none, none, none, none, none, none, none] E := ?_
  · simp only [ev_eq_int, Bool.false_xor, decide_eq_true_eq]
    split
    · exact K _ (by decide) (by decide)
    · exact K _ b1 b2
  clear u u0 u1 b b1 b2
  intro b b1 b2
  rw [hR]; clear hR R
  refine fSeq_split fun R hR => ?_
  simp only [fSeq, fIfS, fRet, fRetN, fDrop, fAsg, fName, fGseq, fGtup, fGcons, fGnil, fVar, fK, f1, f2, fNil, fCons, fTup, fLst, fCall, fCall0, fCallG, fCallK, fCallK0, fRaise, fTry, tryX, fTest, gNot, gAnd, gOr, hAnd, hOr, hNot, fIf, fPar2, fPar3, fSkip, fNever, fBrk, fCnt, fIt, fItT, fItL, fFor, forL, startD, entry, pick, D.isNon,
  DL.lt', DL.le', DL.gt', DL.ge', fSl, fPart, fNo, List.map_cons, List.map_nil, List.length_cons, List.length_nil, List.append_nil, List.nil_append, List.cons_append, List.getElem?_cons_zero, List.getElem?_cons_succ, List.set_cons_zero, List.set_cons_succ, List.replicate_succ, List.replicate_zero, List.filterMap_cons, List.filterMap_nil, Nat.zero_add, Nat.reduceAdd, if_true, if_false, Bool.false_eq_true, Nat.sub_self, Nat.reduceSub, List.replicate_zero, List.map_cons, List.map_nil, List.cons_append, List.nil_append, List.append_nil, List.getElem?_cons_zero, List.getElem?_cons_succ, List.set_cons_zero, List.set_cons_succ, List.length_cons, List.length_nil, Nat.zero_add, Nat.reduceAdd, Nat.reduceLT, Nat.reduceLeDiff, true_and, e1, e2, ev_neg, ev_cmp, DL.lt', decide_eq_true_eq]
  have K : ∀ m : Int, m ∈ [(1 : Int), -1, 2, -3, 30] → R [some (.ref a), some (.int b), some (.int m), none, none, none, none, none, none, none, none] E := ?_
  · have fin : ∀ l : List Int, l ≠ [] → l.length ≤ 10 → (∀ m ∈ l, m ∈ [(1 : Int), -1, 2, -3, 30]) → ∀ (k : D → Prop) (x : XD), (∀ m : Int, m ∈ [(1 : Int), -1, 2, -3, 30] → k (.int m)) → fn__law_pick [.lst (l.map D.int)] k x := fun l l0 ll hl k x hk => pick_go _ _ _ (by simpa using l0) (by rw [List.length_map]; omega) fun z hz => by
      obtain ⟨m, hm, rfl⟩ := List.mem_map.mp hz
      exact hk m (hl m hm)
    split
    · exact ⟨LNle (by decide), fin [1, -1, 2, -3, 30] (by simp) (by decide) (by decide) _ _ K⟩
    · exact ⟨LNle (by decide), fin [1, -1] (by simp) (by decide) (by decide) _ _ K⟩
  intro m hm
  have m30 : m.natAbs ≤ 30 ∧ m ≠ 0 ∧ SF m.natAbs := by
    simp only [List.mem_cons, List.not_mem_nil, or_false] at hm
    rcases hm with e | e | e | e | e <;> rw [e]
    · exact ⟨by decide, by decide, SF.small (B := 6) (by decide) (by decide) (by decide)⟩
    · exact ⟨by decide, by decide, SF.small (B := 6) (by decide) (by decide) (by decide)⟩
    · exact ⟨by decide, by decide, SF.small (B := 6) (by decide) (by decide) (by decide)⟩
    · exact ⟨by decide, by decide, SF.small (B := 6) (by decide) (by decide) (by decide)⟩
    · exact ⟨by decide, by decide, SF.small (B := 6) (by decide) (by decide) (by decide)⟩
  rw [hR]; clear hR R
  have mb : ∀ i : Int, IntMulOk i b := fun i => mulOk_r (by omega) (by omega)
  have mm : ∀ i : Int, IntMulOk i m := fun i => mulOk_r (by omega) (by omega)
  refine fSeq_split fun R hR => ?_
  simp only [fSeq, fIfS, fRet, fRetN, fDrop, fAsg, fName, fGseq, fGtup, fGcons, fGnil, fVar, fK, f1, f2, fNil, fCons, fTup, fLst, fCall, fCall0, fCallG, fCallK, fCallK0, fRaise, fTry, tryX, fTest, gNot, gAnd, gOr, hAnd, hOr, hNot, fIf, fPar2, fPar3, fSkip, fNever, fBrk, fCnt, fIt, fItT, fItL, fFor, forL, startD, entry, pick, D.isNon,
  DL.lt', DL.le', DL.gt', DL.ge', fSl, fPart, fNo, List.map_cons, List.map_nil, List.length_cons, List.length_nil, List.append_nil, List.nil_append, List.cons_append, List.getElem?_cons_zero, List.getElem?_cons_succ, List.set_cons_zero, List.set_cons_succ, List.replicate_succ, List.replicate_zero, List.filterMap_cons, List.filterMap_nil, Nat.zero_add, Nat.reduceAdd, if_true, if_false, Bool.false_eq_true, Nat.sub_self, Nat.reduceSub, List.replicate_zero, List.map_cons, List.map_nil, List.cons_append, List.nil_append, List.append_nil, List.getElem?_cons_zero, List.getElem?_cons_succ, List.set_cons_zero, List.set_cons_succ, List.length_cons, List.length_nil, Nat.zero_add, Nat.reduceAdd, Nat.reduceLT, Nat.reduceLeDiff, true_and, e1, e2]
  refine near_go _ _ _ (by decide) (by decide) fun p p0 p1 => near_go _ _ _ (by decide) (by decide) fun r r0 r1 => draw_go _ _ _ (by decide) (by decide) fun s s0 s1 => ?_
  simp only [ev_add_int, ev_mul, mb, mm, true_and]
  refine ⟨LNle (by decide), ?_⟩
  obtain ⟨w, rfl⟩ := Int.eq_ofNat_of_zero_le (show 0 ≤ b by omega)
  have prt : Prt ((w : Int) * (w : Int) * m) m w := ⟨by omega, by rw [Int.natCast_mul, Int.mul_comm], m30.2.2⟩
  have d0 : (w : Int) * (w : Int) * m ≠ 0 := Int.mul_ne_zero (Int.mul_ne_zero (by omega) (by omega)) m30.2.1
  have db : ((w : Int) * (w : Int) * m).natAbs ≤ 10 ^ 12 * 30 := by
    rw [Int.natAbs_mul, Int.natAbs_mul]
    exact Nat.le_trans (Nat.mul_le_mul (Nat.mul_le_mul (show (w : Int).natAbs ≤ 10 ^ 6 by omega) (show (w : Int).natAbs ≤ 10 ^ 6 by omega)) m30.1) (by decide)
  have db3 : ((w : Int) * (w : Int) * m).natAbs < 2 ^ 3000 := Nat.lt_of_le_of_lt db (Nat.lt_of_lt_of_le (show 10 ^ 12 * 30 < 2 ^ 50 by decide) (Nat.pow_le_pow_right (by decide) (by decide)))
  rw [hR]; clear hR R
  refine fSeq_split fun R hR => ?_
  simp only [fSeq, fIfS, fRet, fRetN, fDrop, fAsg, fName, fGseq, fGtup, fGcons, fGnil, fVar, fK, f1, f2, fNil, fCons, fTup, fLst, fCall, fCall0, fCallG, fCallK, fCallK0, fRaise, fTry, tryX, fTest, gNot, gAnd, gOr, hAnd, hOr, hNot, fIf, fPar2, fPar3, fSkip, fNever, fBrk, fCnt, fIt, fItT, fItL, fFor, forL, startD, entry, pick, D.isNon,
  DL.lt', DL.le', DL.gt', DL.ge', fSl, fPart, fNo, List.map_cons, List.map_nil, List.length_cons, List.length_nil, List.append_nil, List.nil_append, List.cons_append, List.getElem?_cons_zero, List.getElem?_cons_succ, List.set_cons_zero, List.set_cons_succ, List.replicate_succ, List.replicate_zero, List.filterMap_cons, List.filterMap_nil, Nat.zero_add, Nat.reduceAdd, if_true, if_false, Bool.false_eq_true, Nat.sub_self, Nat.reduceSub, List.replicate_zero, List.map_cons, List.map_nil, List.cons_append, List.nil_append, List.append_nil, List.getElem?_cons_zero, List.getElem?_cons_succ, List.set_cons_zero, List.set_cons_succ, List.length_cons, List.length_nil, Nat.zero_add, Nat.reduceAdd, Nat.reduceLT, Nat.reduceLeDiff, true_and, e1, e2, ev_mul, mb]
  refine law_tv _ _ (by omega) (Nat.lt_of_le_of_lt (show _ ≤ 2 ^ 3 by omega) (Nat.pow_lt_pow_right (by decide) (by decide))) ?_
  rw [hR]; clear hR R
  have hs1 : (1 : Int) + s ≠ 0 := by omega
  have hb9 : ((1 : Int) + s).natAbs < 2 ^ 9000 := Nat.lt_of_le_of_lt (show _ ≤ 2 ^ 3 by omega) (Nat.pow_lt_pow_right (by decide) (by decide))
  have hr3 : r.natAbs < 2 ^ 3000 := Nat.lt_of_le_of_lt (show _ ≤ 2 ^ 4 by omega) (Nat.pow_lt_pow_right (by decide) (by decide))
  obtain ⟨c, rq, hc, e, etv, se, _⟩ := tv_nd (p := p) (r := r) (s := 1 + s) hs1 d0 prt (Nat.le_trans m30.1 (by decide)) (Nat.le_trans (show _ ≤ 2 ^ 6 by omega) (by decide)) (Nat.le_trans (show _ ≤ 2 ^ 6 by omega) (by decide)) (Nat.le_trans (show _ ≤ 2 ^ 6 by omega) (by decide)) (Nat.le_trans (show w ≤ 2 ^ 20 by omega) (by decide))
  have hd9 : c.natAbs < 2 ^ 1900 := Nat.lt_of_le_of_lt (Nat.le_trans hc (show 10 ^ 12 ≤ 2 ^ 40 by decide)) (Nat.pow_lt_pow_right (by decide) (by decide))
  have gn : ∀ (q : D → Prop) (x : XD), q (nd e) → fn_number_of [.int p, .int r, .int (1 + s), .int ((w : Int) * (w : Int) * m)] q x := fun q x hq => number_of_go q x hs1 hb9 hr3 d0 db3 prt (by rw [etv]; exact hq)
  rw [etv]
  refine fSeq_split fun R hR => ?_
  simp only [fSeq, fIfS, fRet, fRetN, fDrop, fAsg, fName, fGseq, fGtup, fGcons, fGnil, fVar, fK, f1, f2, fNil, fCons, fTup, fLst, fCall, fCall0, fCallG, fCallK, fCallK0, fRaise, fTry, tryX, fTest, gNot, gAnd, gOr, hAnd, hOr, hNot, fIf, fPar2, fPar3, fSkip, fNever, fBrk, fCnt, fIt, fItT, fItL, fFor, forL, startD, entry, pick, D.isNon,
  DL.lt', DL.le', DL.gt', DL.ge', fSl, fPart, fNo, List.map_cons, List.map_nil, List.length_cons, List.length_nil, List.append_nil, List.nil_append, List.cons_append, List.getElem?_cons_zero, List.getElem?_cons_succ, List.set_cons_zero, List.set_cons_succ, List.replicate_succ, List.replicate_zero, List.filterMap_cons, List.filterMap_nil, Nat.zero_add, Nat.reduceAdd, if_true, if_false, Bool.false_eq_true, Nat.sub_self, Nat.reduceSub, List.replicate_zero, List.map_cons, List.map_nil, List.cons_append, List.nil_append, List.append_nil, List.getElem?_cons_zero, List.getElem?_cons_succ, List.set_cons_zero, List.set_cons_succ, List.length_cons, List.length_nil, Nat.zero_add, Nat.reduceAdd, Nat.reduceLT, Nat.reduceLeDiff, true_and, e1, e2]
  refine gn _ _ ?_
  refine repNN _ _ rq.rt hd9 (se.mono (by decide)) ?_
  refine repNN _ _ rq.rt hd9 (se.mono (by decide)) ?_
  rw [sEq_str]
  simp only [decide_true, Bool.true_xor, Bool.not_true, Bool.false_eq_true, if_false]
  refine ⟨LNle (by decide), ?_⟩
  have numF : ∀ (p d : Int) (q : D → Prop) (x : XD), (¬ (d.natAbs ≤ 10 ^ 12 ∧ SF d.natAbs)) → q (.bl false) → fn_is_number [.tup [.int p, .int 1, .int 1, .int d]] q x := fun p d q x hn hq => by
    rw [fn_is_number_eq]; unfold g_is_number
    refine ⟨rfl, ?_⟩
    dsimp only [fSeq, fIfS, fRet, fRetN, fDrop, fAsg, fName, fGseq, fGtup, fGcons, fGnil, fVar, fK, f1, f2, fNil, fCons, fTup, fLst, fCall, fCall0, fCallG, fCallK, fCallK0, fRaise, fTry, tryX, fTest, gNot, gAnd, gOr, hAnd, hOr, hNot, fIf, fPar2, fPar3, fSkip, fNever, fBrk, fCnt, fIt, fItT, fItL, fFor, forL, startD, entry, pick, D.isNon,
  DL.lt', DL.le', DL.gt', DL.ge', fSl, fPart, fNo, List.map_cons, List.map_nil, List.length_cons, List.length_nil, List.append_nil, List.nil_append, List.cons_append, List.getElem?_cons_zero, List.getElem?_cons_succ, List.set_cons_zero, List.set_cons_succ, List.replicate_succ, List.replicate_zero, List.filterMap_cons, List.filterMap_nil, Nat.zero_add, Nat.reduceAdd, if_true, if_false, Bool.false_eq_true]
    refine number_value_ints _ _ p 1 1 d fun b hb => ?_
    cases b with
    | false => exact hq
    | true => exact absurd (((numI_sq (by decide)).mp (hb.mp rfl)).2.2.2.2) hn
  refine numF _ _ _ _ (fun z => z.2 w (by omega) ⟨m.natAbs, by rw [Int.natAbs_mul, Int.natAbs_mul]; rfl⟩) ?_
  simp only [sIs2, decide_true, Bool.true_xor, Bool.not_true, Bool.false_eq_true, if_false]
  rw [hR]; clear hR R
  refine fSeq_split fun R hR => ?_
  simp only [fSeq, fIfS, fRet, fRetN, fDrop, fAsg, fName, fGseq, fGtup, fGcons, fGnil, fVar, fK, f1, f2, fNil, fCons, fTup, fLst, fCall, fCall0, fCallG, fCallK, fCallK0, fRaise, fTry, tryX, fTest, gNot, gAnd, gOr, hAnd, hOr, hNot, fIf, fPar2, fPar3, fSkip, fNever, fBrk, fCnt, fIt, fItT, fItL, fFor, forL, startD, entry, pick, D.isNon,
  DL.lt', DL.le', DL.gt', DL.ge', fSl, fPart, fNo, List.map_cons, List.map_nil, List.length_cons, List.length_nil, List.append_nil, List.nil_append, List.cons_append, List.getElem?_cons_zero, List.getElem?_cons_succ, List.set_cons_zero, List.set_cons_succ, List.replicate_succ, List.replicate_zero, List.filterMap_cons, List.filterMap_nil, Nat.zero_add, Nat.reduceAdd, if_true, if_false, Bool.false_eq_true, Nat.sub_self, Nat.reduceSub, List.replicate_zero, List.map_cons, List.map_nil, List.cons_append, List.nil_append, List.append_nil, List.getElem?_cons_zero, List.getElem?_cons_succ, List.set_cons_zero, List.set_cons_succ, List.length_cons, List.length_nil, Nat.zero_add, Nat.reduceAdd, Nat.reduceLT, Nat.reduceLeDiff, true_and, e1, e2]
  refine ⟨LNle (by decide), pick_go _ _ _ (by simp) (show 4 < 1073741824 by decide) fun z hz => ?_⟩
  have : ∃ n : Nat, z = .int (n : Nat) ∧ 1 ≤ n ∧ n ≤ 1000 := by
    simp at hz
    rcases hz with e | e | e | e
    · exact ⟨997, e, by decide, by decide⟩
    · exact ⟨991, e, by decide, by decide⟩
    · exact ⟨31, e, by decide, by decide⟩
    · exact ⟨503, e, by decide, by decide⟩
  obtain ⟨n, rfl, n1, n2⟩ := this
  clear hz
  rw [hR]; clear hR R
  have c12 : CPow 10 12 := ⟨by decide, by decide, by decide⟩
  have c39 : CPow 10 39 := ⟨by decide, by decide, by decide⟩
  refine fSeq_split fun R hR => ?_
  simp only [fSeq, fIfS, fRet, fRetN, fDrop, fAsg, fName, fGseq, fGtup, fGcons, fGnil, fVar, fK, f1, f2, fNil, fCons, fTup, fLst, fCall, fCall0, fCallG, fCallK, fCallK0, fRaise, fTry, tryX, fTest, gNot, gAnd, gOr, hAnd, hOr, hNot, fIf, fPar2, fPar3, fSkip, fNever, fBrk, fCnt, fIt, fItT, fItL, fFor, forL, startD, entry, pick, D.isNon,
  DL.lt', DL.le', DL.gt', DL.ge', fSl, fPart, fNo, List.map_cons, List.map_nil, List.length_cons, List.length_nil, List.append_nil, List.nil_append, List.cons_append, List.getElem?_cons_zero, List.getElem?_cons_succ, List.set_cons_zero, List.set_cons_succ, List.replicate_succ, List.replicate_zero, List.filterMap_cons, List.filterMap_nil, Nat.zero_add, Nat.reduceAdd, if_true, if_false, Bool.false_eq_true, Nat.sub_self, Nat.reduceSub, List.replicate_zero, List.map_cons, List.map_nil, List.cons_append, List.nil_append, List.append_nil, List.getElem?_cons_zero, List.getElem?_cons_succ, List.set_cons_zero, List.set_cons_succ, List.length_cons, List.length_nil, Nat.zero_add, Nat.reduceAdd, Nat.reduceLT, Nat.reduceLeDiff, true_and, e1, e2, ev_pow, ev_neg, ev_sub, ev_add_int, c12, c39]
  refine ⟨LNle (by decide), pick_go _ _ _ (by simp) (show 5 < 1073741824 by decide) fun z hz => ?_⟩
  have : ∃ g : Int, z = .int g ∧ ¬ g.natAbs ≤ 10 ^ 12 := by
    simp at hz
    rcases hz with e | e | e | e | e <;> exact ⟨_, e, by decide⟩
  obtain ⟨g, rfl, hg⟩ := this
  clear hz
  rw [hR]; clear hR R
  refine fSeq_split fun R hR => ?_
  have mn : IntMulOk (n : Int) (n : Int) := mulOk_r (by omega) (by omega)
  simp only [fSeq, fIfS, fRet, fRetN, fDrop, fAsg, fName, fGseq, fGtup, fGcons, fGnil, fVar, fK, f1, f2, fNil, fCons, fTup, fLst, fCall, fCall0, fCallG, fCallK, fCallK0, fRaise, fTry, tryX, fTest, gNot, gAnd, gOr, hAnd, hOr, hNot, fIf, fPar2, fPar3, fSkip, fNever, fBrk, fCnt, fIt, fItT, fItL, fFor, forL, startD, entry, pick, D.isNon,
  DL.lt', DL.le', DL.gt', DL.ge', fSl, fPart, fNo, List.map_cons, List.map_nil, List.length_cons, List.length_nil, List.append_nil, List.nil_append, List.cons_append, List.getElem?_cons_zero, List.getElem?_cons_succ, List.set_cons_zero, List.set_cons_succ, List.replicate_succ, List.replicate_zero, List.filterMap_cons, List.filterMap_nil, Nat.zero_add, Nat.reduceAdd, if_true, if_false, Bool.false_eq_true, Nat.sub_self, Nat.reduceSub, List.replicate_zero, List.map_cons, List.map_nil, List.cons_append, List.nil_append, List.append_nil, List.getElem?_cons_zero, List.getElem?_cons_succ, List.set_cons_zero, List.set_cons_succ, List.length_cons, List.length_nil, Nat.zero_add, Nat.reduceAdd, Nat.reduceLT, Nat.reduceLeDiff, true_and, e1, e2, ev_mul, mn]
  have nb : ((n : Int) * (n : Int)).natAbs ≤ 2 ^ 1000 := by
    rw [Int.natAbs_mul, Int.natAbs_natCast]
    exact Nat.le_trans (Nat.mul_le_mul n2 n2) (Nat.le_trans (show 1000 * 1000 ≤ 2 ^ 20 by decide) (Nat.pow_le_pow_right (by decide) (by decide)))
  have one1 : (1 : Int).natAbs ≤ 2 ^ 1000 := Nat.one_le_two_pow
  have nn0 : (n : Int) * (n : Int) ≠ 0 := Int.mul_ne_zero (by omega) (by omega)
  have sf1 : SF (1 : Int).natAbs := SF.small (B := 2) (by decide) (by decide) (by decide)
  refine root_of_go (w := n) (l := 1) _ _ (by decide) nn0 nb one1 ⟨n1, by rw [Int.mul_one, Int.one_mul, Int.natCast_mul], sf1⟩ ?_
  rw [tv_whole]
  refine root_of_go (w := n) (l := 1) _ _ nn0 (by decide) one1 nb ⟨n1, by rw [Int.natCast_mul], sf1⟩ ?_
  rw [tv_part n n1]
  refine ⟨LNle (by decide), numF _ _ _ _ (fun z => hg z.1) ⟨LNle (by decide), numF _ _ _ _ (fun z => hg z.1) ⟨LNle (by decide), ?_⟩⟩⟩
  rw [hR]; clear hR R
  simp only [fSeq, fIfS, fRet, fRetN, fDrop, fAsg, fName, fGseq, fGtup, fGcons, fGnil, fVar, fK, f1, f2, fNil, fCons, fTup, fLst, fCall, fCall0, fCallG, fCallK, fCallK0, fRaise, fTry, tryX, fTest, gNot, gAnd, gOr, hAnd, hOr, hNot, fIf, fPar2, fPar3, fSkip, fNever, fBrk, fCnt, fIt, fItT, fItL, fFor, forL, startD, entry, pick, D.isNon,
  DL.lt', DL.le', DL.gt', DL.ge', fSl, fPart, fNo, List.map_cons, List.map_nil, List.length_cons, List.length_nil, List.append_nil, List.nil_append, List.cons_append, List.getElem?_cons_zero, List.getElem?_cons_succ, List.set_cons_zero, List.set_cons_succ, List.replicate_succ, List.replicate_zero, List.filterMap_cons, List.filterMap_nil, Nat.zero_add, Nat.reduceAdd, if_true, if_false, Bool.false_eq_true, Nat.sub_self, Nat.reduceSub, List.replicate_zero, List.map_cons, List.map_nil, List.cons_append, List.nil_append, List.append_nil, List.getElem?_cons_zero, List.getElem?_cons_succ, List.set_cons_zero, List.set_cons_succ, List.length_cons, List.length_nil, Nat.zero_add, Nat.reduceAdd, Nat.reduceLT, Nat.reduceLeDiff, true_and, e1, e2]
  have v1 : Vk 1 21000 (.tup ([(n : Int), 0, 1, 1].map D.int)) := Vk.ints (fun i hi => by
    simp only [List.mem_cons, List.not_mem_nil, or_false] at hi
    rcases hi with z | z | z | z <;> rw [z]
    · rw [Int.natAbs_natCast]; exact Nat.le_trans n2 (by decide)
    · decide
    · decide
    · decide) (Nat.le_of_ble_eq_true rfl)
  have v2 : Vk 1 21000 (.tup ([1, 0, (n : Int), 1].map D.int)) := Vk.ints (fun i hi => by
    simp only [List.mem_cons, List.not_mem_nil, or_false] at hi
    rcases hi with z | z | z | z <;> rw [z]
    · decide
    · decide
    · rw [Int.natAbs_natCast]; exact Nat.le_trans n2 (by decide)
    · decide) (Nat.le_of_ble_eq_true rfl)
  have v := Vk.tup (k := 1) (n := 21000) (m := 4) (l := [.tup ([(n : Int), 0, 1, 1].map D.int), .tup ([1, 0, (n : Int), 1].map D.int), .bl false, .bl false]) (fun u hu => by
    simp only [List.mem_cons, List.not_mem_nil, or_false] at hu
    rcases hu with z | z | z | z <;> rw [z]
    · exact v1
    · exact v2
    · exact (Vk.bl _).mono (by decide) (by decide)
    · exact (Vk.bl _).mono (by decide) (by decide)) (Nat.le_of_ble_eq_true rfl)
  have rp : Rp (.tup [.tup [.int (n : Int), .int 0, .int 1, .int 1], .tup [.int 1, .int 0, .int (n : Int), .int 1], .bl false, .bl false]) 100000 := ⟨v.ok, v.sh, Nat.le_trans v.dp (by decide), Nat.le_trans v.ct (by decide)⟩
  have l4 := LNle (n := 4) (by decide)
  refine repPT _ _ rp (by decide) ⟨l4, l4, l4, repPT _ _ rp (by decide) ?_⟩
  rw [sEq_str]
  exact h
end

end K01

set_option exponentiation.threshold 10000
namespace K01
open PySem PySem.Spec PyProof.Rows L2 DL DN
section
variable (q : D → Prop) (x : XD)
/-- what four drawn integers answer -/
theorem wide_ans {p r s d : Int} (hp : p.natAbs ≤ 10 ^ 30) (hr : r.natAbs ≤ 10 ^ 30) (hs : s.natAbs ≤ 10 ^ 30) (hd : d.natAbs ≤ 10 ^ 8) (s0 : s ≠ 0) (d0 : d ≠ 0) :
    ∃ c, Rq c ∧ c.natAbs ≤ 10 ^ 12 ∧ ∃ e : El c, Sx e 195 ∧ (∀ (q : D → Prop) (x : XD) (w : Int), q (.tup [.str "told", nd e]) → fn__law_asked [.tup [.int p, .int r, .int s, .int d], .int w] q x) ∧
      (∀ (q : D → Prop) (x : XD), q (.tup [.str "told", nd e]) → fn__law_due [.tup [.int p, .int r, .int s, .int d]] q x) := by
  obtain ⟨l, w, a⟩ := parts_ex _ d rfl d0
  obtain ⟨_, h2, h3⟩ := a.le d0
  have p30 : (10 : Nat) ^ 30 ≤ 2 ^ 110 := by decide
  obtain ⟨c, rq, hc, e, etv, se, _⟩ := tv_nd (p := p) (r := r) (s := s) s0 d0 a (by omega) (by omega) (by omega) (by omega) (by omega)
  have b9 : s.natAbs < 2 ^ 9000 := Nat.lt_of_le_of_lt (Nat.le_trans hs p30) (Nat.pow_lt_pow_right (by decide) (by decide))
  have b3 : r.natAbs < 2 ^ 3000 := Nat.lt_of_le_of_lt (Nat.le_trans hr p30) (Nat.pow_lt_pow_right (by decide) (by decide))
  have d3 : d.natAbs < 2 ^ 3000 := Nat.lt_of_le_of_lt (Nat.le_trans hd (show 10 ^ 8 ≤ 2 ^ 40 by decide)) (Nat.pow_lt_pow_right (by decide) (by decide))
  refine ⟨c, rq, hc, e, se, fun q x v h => asked4 q x _ _ _ _ v (number_of_go _ _ s0 b9 b3 d0 d3 a (by rw [etv]; exact h)), fun q x h => due4_go q x s0 b9 b3 d0 d3 a (by rw [etv]; exact h)⟩
end

end K01

set_option exponentiation.threshold 10000
namespace K01
open PySem PySem.Spec PyProof.Rows L2 DL DN
section
variable (q : D → Prop) (x : XD)
theorem El.sq_pure {c : Int} (u : Rat) : (⟨u, 0⟩ : El c) * ⟨u, 0⟩ = ⟨u * u, 0⟩ := by
  ext
  · show u * u + 0 * 0 * (c : Rat) = u * u
    grind
  · show u * 0 + 0 * u = 0
    grind
theorem El.sq_root {c : Int} (v : Rat) : (⟨0, v⟩ : El c) * ⟨0, v⟩ = ⟨v * v * c, 0⟩ := by
  ext
  · show 0 * 0 + v * v * (c : Rat) = v * v * c
    grind
  · show 0 * v + v * 0 = (0 : Rat)
    grind
/-- a root as a number of a right root, and its square -/
theorem root_nd {d l s : Int} {w : Nat} (hs : s ≠ 0) (h0 : d ≠ 0) (a : Prt d l w) (hl : l.natAbs ≤ 10 ^ 12) (hs2 : s.natAbs ≤ 2 ^ 100) (hw : w ≤ 2 ^ 40) :
    ∃ c, Rq c ∧ c.natAbs ≤ 10 ^ 12 ∧ ∃ e : El c, tv 0 1 s l w = nd e ∧ Sx e 100 ∧ e * e = ⟨(d : Rat) / (s * s), 0⟩ := by
  have hsr : ((s : Int) : Rat) ≠ 0 := rcast_ne hs
  have z0 : ((0 : Int) : Rat) = 0 := rfl
  have ed : (d : Rat) = (l : Rat) * (((w : Int) : Rat) * ((w : Int) : Rat)) := by
    rw [a.eq, Rat.intCast_mul, Int.natCast_mul, Rat.intCast_mul]
  have w1 : ((0 + 1 * (w : Int) : Int)) = (w : Int) := by rw [Int.zero_add, Int.one_mul]
  have w2 : ((1 * (w : Int) : Int)) = (w : Int) := Int.one_mul _
  unfold tv
  by_cases e1 : l = 1
  · rw [if_pos e1, w1]
    refine ⟨2, Rq.two, by decide, _, rfl, ?_, ?_⟩
    · refine ⟨_, _, raw_sz (P := (w : Int)) (Q := 0) (S := s) hs (div_mul_s hs) (by show ((0 : Int) : Rat) = 0 * (s : Rat); rw [z0]; grind), hs2, ?_⟩
      rw [Int.natAbs_natCast, Int.natAbs_zero, Nat.zero_mul, Nat.add_zero]
      exact Nat.le_trans hw (by decide)
    · rw [El.sq_pure, ed, e1]
      have : ((1 : Int) : Rat) = 1 := rfl
      rw [this]
      congr 1
      grind
  · rw [if_neg e1, w2]
    have e0 : ((0 : Int) : Rat) / s = 0 := by rw [z0]; grind
    rw [e0]
    refine ⟨l, Rq.sf e1 (a.le h0).1 hl a.sf, hl, _, rfl, ?_, ?_⟩
    · refine ⟨_, _, raw_sz (P := 0) (Q := (w : Int)) (S := s) hs (by show ((0 : Int) : Rat) = 0 * (s : Rat); rw [z0]; grind) (div_mul_s hs), hs2, ?_⟩
      rw [Int.natAbs_natCast, Int.natAbs_zero, Nat.zero_add]
      exact Nat.le_trans (Nat.mul_le_mul hw hl) (by decide)
    · rw [El.sq_root, ed]
      congr 1
      grind
end

end K01

set_option exponentiation.threshold 10000
namespace K01
open PySem PySem.Spec PyProof.Rows L2 DL DN
section
variable (q : D → Prop) (x : XD)
theorem root_ans {t b : Int} (ht : t.natAbs ≤ 90000) (hb : b.natAbs ≤ 90000) (b0 : b ≠ 0) :
    ∃ c, Rq c ∧ c.natAbs ≤ 10 ^ 12 ∧ ∃ e : El c, Sx e 100 ∧ (∀ (q : D → Prop) (x : XD) (w : Int), q (.tup [.str "told", nd e]) → fn__law_asked [.tup [.int t, .int b], .int w] q x) ∧
      (∀ (q : D → Prop) (x : XD), q (.tup [.str "told", nd e]) → fn__law_due [.tup [.int t, .int b]] q x) ∧ e * e = ⟨(t : Rat) / b, 0⟩ := by
  have k1 : t.natAbs ≤ 2 ^ 1000 := Nat.le_trans ht (Nat.le_trans (show 90000 ≤ 2 ^ 20 by decide) (Nat.pow_le_pow_right (by decide) (by decide)))
  have k2 : b.natAbs ≤ 2 ^ 1000 := Nat.le_trans hb (Nat.le_trans (show 90000 ≤ 2 ^ 20 by decide) (Nat.pow_le_pow_right (by decide) (by decide)))
  have hbr : ((b : Int) : Rat) ≠ 0 := rcast_ne b0
  by_cases t0 : t = 0
  · subst t0
    have c9 : c_NIL = nd (0 : El 2) := (nd_zero (d := 2)).symm
    refine ⟨2, Rq.two, by decide, 0, Sx.zero, fun q x w h => asked2 q x _ _ w (root_of_nil _ _ b0 k2 (by rw [c9]; exact h)), fun q x h => due2_any q x 0 b b0 (fun _ => by rw [c9]; exact h) (fun _ _ z => absurd rfl z) k1 k2, ?_⟩
    have z0 : ((0 : Int) : Rat) / b = 0 := by
      have : ((0 : Int) : Rat) = 0 := rfl
      rw [this]; grind
    rw [z0]
    exact El.sq_pure 0 |>.trans (by congr 1; grind)
  · have h0 : t * b ≠ 0 := Int.mul_ne_zero t0 b0
    obtain ⟨l, w, a⟩ := parts_ex _ (t * b) rfl h0
    obtain ⟨_, h2, h3⟩ := a.le h0
    have tb : (t * b).natAbs ≤ 90000 * 90000 := by rw [Int.natAbs_mul]; exact Nat.mul_le_mul ht hb
    obtain ⟨c, rq, hc, e, etv, se, ee⟩ := root_nd (s := (b.natAbs : Int)) (by omega) h0 a (by omega) (by rw [Int.natAbs_natCast]; exact Nat.le_trans hb (by decide)) (by omega)
    refine ⟨c, rq, hc, e, se, fun q x v h => asked2 q x _ _ v (root_of_go _ _ b0 t0 k1 k2 a (by rw [etv]; exact h)), fun q x h => due2_any q x t b b0 (fun z => absurd z t0) (fun l' w' _ a' => ?_) k1 k2, ?_⟩
    · obtain ⟨r1, r2⟩ := Prt.uniq h0 a a'
      rw [← r1, ← r2, etv]
      exact h
    · rw [ee]
      congr 1
      rw [← Rat.intCast_mul, show (((b.natAbs : Nat) : Int) * ((b.natAbs : Nat) : Int)) = b * b by rw [← Int.natCast_mul, sq_abs], Rat.intCast_mul, Rat.intCast_mul]
      grind
end

end K01

set_option exponentiation.threshold 10000
namespace K01
open PySem PySem.Spec PyProof.Rows L2 DL DN
section
variable (q : D → Prop) (x : XD)
/-- a row of values: refused by both, or told by the law -/
def Wr (v : D) : Prop := ((∀ (q : D → Prop) (x : XD), q (.tup [.str "bad", v, .bl true]) → fn__law_due [v] q x) ∧ (∀ (w : Int) (q : D → Prop) (x : XD), q (.tup [.str "bad", v, .bl true]) → fn__law_asked [v, .int w] q x)) ∨ ∃ t, ∀ (q : D → Prop) (x : XD), q (.tup [.str "told", t]) → fn__law_due [v] q x
theorem i40 {i : Int} (h : i.natAbs ≤ 10 ^ 40) : i.natAbs < 2 ^ 3000 ∧ i.natAbs < 2 ^ 9000 ∧ i.natAbs ≤ 2 ^ 1000 := by
  have h1 : i.natAbs ≤ 2 ^ 140 := Nat.le_trans h (by decide)
  exact ⟨Nat.lt_of_le_of_lt h1 (Nat.pow_lt_pow_right (by decide) (by decide)), Nat.lt_of_le_of_lt h1 (Nat.pow_lt_pow_right (by decide) (by decide)), Nat.le_trans h1 (Nat.pow_le_pow_right (by decide) (by decide))⟩
theorem wrong4 {k n : Nat} (a b c e : D) (hv : ∀ u ∈ [a, b, c, e], Vk k n u) : Wr (.tup [a, b, c, e]) := by
  have ho : D.oksR [a, b, c, e] = true := (vks hv).1
  by_cases hb : [a, b, c, e].all isI = false ∨ c = .int 0 ∨ e = .int 0
  · exact .inl ⟨fun q x h => due4_bad q x a b c e ho hb h, fun w q x h => asked4 q x a b c e w (number_of_bad _ _ a b c e ho hb (tried_bad q h))⟩
  · have hA : ∀ u ∈ [a, b, c, e], isI u = true := by
      apply List.all_eq_true.mp
      cases h : [a, b, c, e].all isI with
      | true => rfl
      | false => exact absurd (.inl h) hb
    obtain ⟨p, rfl⟩ := isI_int (hA a (by simp))
    obtain ⟨r, rfl⟩ := isI_int (hA b (by simp))
    obtain ⟨s, rfl⟩ := isI_int (hA c (by simp))
    obtain ⟨d, rfl⟩ := isI_int (hA e (by simp))
    have s0 : s ≠ 0 := fun z => hb (.inr (.inl (by rw [z])))
    have d0 : d ≠ 0 := fun z => hb (.inr (.inr (by rw [z])))
    obtain ⟨l, w, pr⟩ := parts_ex _ d rfl d0
    exact .inr ⟨_, fun q x h => due4_go q x s0 (i40 ((hv (.int s) (by simp)).i0 s rfl)).2.1 (i40 ((hv (.int r) (by simp)).i0 r rfl)).1 d0 (i40 ((hv (.int d) (by simp)).i0 d rfl)).1 pr h⟩
theorem wrong2 {k n : Nat} (c e : D) (hv : ∀ u ∈ [c, e], Vk k n u) : Wr (.tup [c, e]) := by
  have ho : D.oksR [c, e] = true := (vks hv).1
  by_cases hb : [c, e].all isI = false ∨ e = .int 0
  · refine .inl ⟨fun q x h => due2_bad q x c e ho hb h, fun w q x h => asked2 q x c e w (root_of_bad _ _ c e (hv c (by simp)).ok (hv e (by simp)).ok ?_ (tried_bad q h))⟩
    rcases hb with z | z
    · cases h1 : isI c with
      | false => exact .inl rfl
      | true =>
        cases h2 : isI e with
        | false => exact .inr (.inl rfl)
        | true => simp [h1, h2] at z
    · exact .inr (.inr z)
  · have hA : ∀ u ∈ [c, e], isI u = true := by
      apply List.all_eq_true.mp
      cases h : [c, e].all isI with
      | true => rfl
      | false => exact absurd (.inl h) hb
    obtain ⟨t, rfl⟩ := isI_int (hA c (by simp))
    obtain ⟨b, rfl⟩ := isI_int (hA e (by simp))
    have b0 : b ≠ 0 := fun z => hb (.inr (by rw [z]))
    have k1 := (i40 ((hv (.int t) (by simp)).i0 t rfl)).2.2
    have k2 := (i40 ((hv (.int b) (by simp)).i0 b rfl)).2.2
    by_cases t0 : t = 0
    · exact .inr ⟨c_NIL, fun q x h => due2_any q x t b b0 (fun _ => h) (fun _ _ z => absurd t0 z) k1 k2⟩
    · have h0 : t * b ≠ 0 := Int.mul_ne_zero t0 b0
      obtain ⟨l, w, a⟩ := parts_ex _ (t * b) rfl h0
      refine .inr ⟨tv 0 1 (b.natAbs : Int) l w, fun q x h => due2_any q x t b b0 (fun z => absurd z t0) (fun l' w' _ a' => ?_) k1 k2⟩
      obtain ⟨r1, r2⟩ := Prt.uniq h0 a a'
      rw [← r1, ← r2]
      exact h
end

end K01

set_option exponentiation.threshold 10000
namespace K01
open PySem PySem.Spec PyProof.Rows L2 DL DN
section
variable (q : D → Prop) (x : XD)
theorem canon_le {c : Int} {e : El c} {p q s P Q S : Int} (h : Canon e p q s) (hS : S ≠ 0) (h1 : (P : Rat) = e.a * S) (h2 : (Q : Rat) = e.b * S) : p.natAbs ≤ P.natAbs ∧ q.natAbs ≤ Q.natAbs ∧ s.natAbs ≤ S.natAbs := by
  obtain ⟨h3, g0⟩ := Canon.reduce hS h1 h2 rfl
  obtain ⟨r1, r2, r3⟩ := h.uniq h3
  obtain ⟨g, hg⟩ : ∃ g, g = (if S > 0 then gcdI (gcdI P Q) S else -gcdI (gcdI P Q) S) := ⟨_, rfl⟩
  have d3 : gcdI (gcdI P Q) S ∣ S := gcdI_dvd_r ..
  have d0 : gcdI (gcdI P Q) S ∣ gcdI P Q := gcdI_dvd_l ..
  have d1 : gcdI (gcdI P Q) S ∣ P := Int.dvd_trans d0 (gcdI_dvd_l ..)
  have d2 : gcdI (gcdI P Q) S ∣ Q := Int.dvd_trans d0 (gcdI_dvd_r ..)
  have gd : ∀ {z : Int}, gcdI (gcdI P Q) S ∣ z → g ∣ z := fun {z} hz => by
    rw [hg]; split
    · exact hz
    · exact Int.neg_dvd.mpr hz
  rw [← hg] at g0 r1 r2 r3
  have le : ∀ {z w : Int}, g ∣ z → w = z.fdiv g → w.natAbs ≤ z.natAbs := fun {z w} hz e => by
    obtain ⟨k, rfl⟩ := hz
    rw [Int.mul_fdiv_cancel_left _ g0] at e
    rw [e, Int.natAbs_mul]
    exact Nat.le_mul_of_pos_left _ (by omega)
  exact ⟨le (gd d1) r1, le (gd d2) r2, le (gd d3) r3⟩
theorem tv_small {p r s l : Int} {w : Nat} (hs : s ≠ 0) (hp : p.natAbs ≤ 10 ^ 30) (hr : r.natAbs ≤ 10 ^ 30) (hs2 : s.natAbs ≤ 10 ^ 30) (hl : l.natAbs ≤ 10 ^ 12) (hw : w ≤ 10 ^ 4) :
    ∃ a b c f : Int, tv p r s l w = .tup [.int a, .int b, .int c, .int f] ∧ ∀ i ∈ [a, b, c, f], i.natAbs ≤ 10 ^ 38 := by
  have z0 : ((0 : Int) : Rat) = 0 := rfl
  have hrw : (r * (w : Int)).natAbs ≤ 10 ^ 34 := by
    rw [Int.natAbs_mul, Int.natAbs_natCast]
    exact Nat.le_trans (Nat.mul_le_mul hr hw) (by decide)
  have fin : ∀ {c : Int} (e : El c), (cn e).1.natAbs ≤ 10 ^ 38 → (cn e).2.1.natAbs ≤ 10 ^ 38 → (cn e).2.2.natAbs ≤ 10 ^ 38 → c.natAbs ≤ 10 ^ 12 → ∃ a b c f : Int, nd e = .tup [.int a, .int b, .int c, .int f] ∧ ∀ i ∈ [a, b, c, f], i.natAbs ≤ 10 ^ 38 := fun {c} e h1 h2 h3 h4 => by
    refine ⟨_, _, _, dn e, nd_eq e, fun i hi => ?_⟩
    have hdn : (dn e).natAbs ≤ 10 ^ 38 := by
      unfold dn
      split
      · decide
      · exact Nat.le_trans h4 (by decide)
    simp only [List.mem_cons, List.not_mem_nil, or_false] at hi
    rcases hi with z | z | z | z <;> rw [z] <;> assumption
  unfold tv
  split
  · obtain ⟨b1, b2, b3⟩ := canon_le (cn_ok (⟨((p + r * w : Int) : Rat) / s, 0⟩ : El 2)) (P := p + r * w) (Q := 0) hs (div_mul_s hs) (by show ((0 : Int) : Rat) = 0 * (s : Rat); rw [z0]; grind)
    have := Int.natAbs_add_le p (r * w)
    have t1 : (10 : Nat) ^ 30 + 10 ^ 34 ≤ 10 ^ 38 := by decide
    have t2 : (10 : Nat) ^ 30 ≤ 10 ^ 38 := by decide
    refine fin _ ?_ ?_ ?_ (by decide)
    · omega
    · rw [Int.natAbs_zero] at b2; omega
    · omega
  · obtain ⟨b1, b2, b3⟩ := canon_le (cn_ok (⟨(p : Rat) / s, ((r * w : Int) : Rat) / s⟩ : El l)) (P := p) (Q := r * w) hs (div_mul_s hs) (div_mul_s hs)
    have t2 : (10 : Nat) ^ 30 ≤ 10 ^ 38 := by decide
    have t3 : (10 : Nat) ^ 34 ≤ 10 ^ 38 := by decide
    exact fin _ (by omega) (by omega) (by omega) hl
/-- .. with its parts -/
theorem wide_ans2 {p r s d : Int} (hp : p.natAbs ≤ 10 ^ 30) (hr : r.natAbs ≤ 10 ^ 30) (hs : s.natAbs ≤ 10 ^ 30) (hd : d.natAbs ≤ 10 ^ 8) (s0 : s ≠ 0) (d0 : d ≠ 0) :
    ∃ c, Rq c ∧ c.natAbs ≤ 10 ^ 12 ∧ ∃ e : El c, Sx e 195 ∧ (∃ a b c f : Int, nd e = .tup [.int a, .int b, .int c, .int f] ∧ ∀ i ∈ [a, b, c, f], i.natAbs ≤ 10 ^ 38) ∧ (∀ (q : D → Prop) (x : XD) (w : Int), q (.tup [.str "told", nd e]) → fn__law_asked [.tup [.int p, .int r, .int s, .int d], .int w] q x) ∧
      (∀ (q : D → Prop) (x : XD), q (.tup [.str "told", nd e]) → fn__law_due [.tup [.int p, .int r, .int s, .int d]] q x) := by
  obtain ⟨l, w, a⟩ := parts_ex _ d rfl d0
  obtain ⟨_, h2, h3⟩ := a.le d0
  have p30 : (10 : Nat) ^ 30 ≤ 2 ^ 110 := by decide
  have w4 : w ≤ 10 ^ 4 := by
    rcases Nat.lt_or_ge (10 ^ 4) w with k | k
    · have e1 : (10 ^ 4 + 1) * (10 ^ 4 + 1) ≤ w * w := Nat.mul_le_mul k k
      have e2 : w * w ≤ d.natAbs := by
        have := a.eq
        have l0 : l ≠ 0 := (a.le d0).1
        rw [this, Int.natAbs_mul, Int.natAbs_natCast]
        exact Nat.le_mul_of_pos_left _ (by omega)
      have : (10 ^ 4 + 1) * (10 ^ 4 + 1) ≤ 10 ^ 8 := Nat.le_trans e1 (Nat.le_trans e2 hd)
      exact absurd this (by decide)
    · exact k
  have tv4 := tv_small (p := p) (r := r) (s := s) (l := l) (w := w) s0 hp hr hs (by omega) w4
  obtain ⟨c, rq, hc, e, etv, se, _⟩ := tv_nd (p := p) (r := r) (s := s) s0 d0 a (by omega) (by omega) (by omega) (by omega) (by omega)
  have b9 : s.natAbs < 2 ^ 9000 := Nat.lt_of_le_of_lt (Nat.le_trans hs p30) (Nat.pow_lt_pow_right (by decide) (by decide))
  have b3 : r.natAbs < 2 ^ 3000 := Nat.lt_of_le_of_lt (Nat.le_trans hr p30) (Nat.pow_lt_pow_right (by decide) (by decide))
  have d3 : d.natAbs < 2 ^ 3000 := Nat.lt_of_le_of_lt (Nat.le_trans hd (show 10 ^ 8 ≤ 2 ^ 40 by decide)) (Nat.pow_lt_pow_right (by decide) (by decide))
  rw [etv] at tv4
  refine ⟨c, rq, hc, e, se, tv4, fun q x v h => asked4 q x _ _ _ _ v (number_of_go _ _ s0 b9 b3 d0 d3 a (by rw [etv]; exact h)), fun q x h => due4_go q x s0 b9 b3 d0 d3 a (by rw [etv]; exact h)⟩
theorem Vk.tup4 {k n1 n2 n3 n4 : Nat} {a b c e : D} (ha : Vk k n1 a) (hb : Vk k n2 b) (hc : Vk k n3 c) (he : Vk k n4 e) : Vk (k + 1) (n1 + n2 + n3 + n4 + 11) (.tup [a, b, c, e]) := by
  refine ⟨?_, ?_, ?_, ?_, fun j e => (by cases e), fun xs e i hi => ?_⟩
  · show (a.okR && (b.okR && (c.okR && (e.okR && true)))) = true
    rw [ha.ok, hb.ok, hc.ok, he.ok]; rfl
  · show (a.shows && (b.shows && (c.shows && (e.shows && true)))) = true
    rw [ha.sh, hb.sh, hc.sh, he.sh]; rfl
  · show max a.dep (max b.dep (max c.dep (max e.dep 0))) + 1 ≤ k + 1
    have := ha.dp; have := hb.dp; have := hc.dp; have := he.dp; omega
  · show a.cost + 2 + (b.cost + 2 + (c.cost + 2 + (e.cost + 2 + 0))) + 3 ≤ _
    have := ha.ct; have := hb.ct; have := hc.ct; have := he.ct; omega
  · cases e
    simp only [List.mem_cons, List.not_mem_nil, or_false] at hi
    rcases hi with z | z | z | z
    · exact ha.i0 i z.symm
    · exact hb.i0 i z.symm
    · exact hc.i0 i z.symm
    · exact he.i0 i z.symm
theorem Vk.tup2 {k n1 n2 : Nat} {a b : D} (ha : Vk k n1 a) (hb : Vk k n2 b) : Vk (k + 1) (n1 + n2 + 7) (.tup [a, b]) := by
  refine ⟨?_, ?_, ?_, ?_, fun j e => (by cases e), fun xs e i hi => ?_⟩
  · show (a.okR && (b.okR && true)) = true
    rw [ha.ok, hb.ok]; rfl
  · show (a.shows && (b.shows && true)) = true
    rw [ha.sh, hb.sh]; rfl
  · show max a.dep (max b.dep 0) + 1 ≤ k + 1
    have := ha.dp; have := hb.dp; omega
  · show a.cost + 2 + (b.cost + 2 + 0) + 3 ≤ _
    have := ha.ct; have := hb.ct; omega
  · cases e
    simp only [List.mem_cons, List.not_mem_nil, or_false] at hi
    rcases hi with z | z
    · exact ha.i0 i z.symm
    · exact hb.i0 i z.symm
theorem Vk.tup3 {k n1 n2 n3 : Nat} {a b c : D} (ha : Vk k n1 a) (hb : Vk k n2 b) (hc : Vk k n3 c) : Vk (k + 1) (n1 + n2 + n3 + 9) (.tup [a, b, c]) := by
  refine ⟨?_, ?_, ?_, ?_, fun j e => (by cases e), fun xs e i hi => ?_⟩
  · show (a.okR && (b.okR && (c.okR && true))) = true
    rw [ha.ok, hb.ok, hc.ok]; rfl
  · show (a.shows && (b.shows && (c.shows && true))) = true
    rw [ha.sh, hb.sh, hc.sh]; rfl
  · show max a.dep (max b.dep (max c.dep 0)) + 1 ≤ k + 1
    have := ha.dp; have := hb.dp; have := hc.dp; omega
  · show a.cost + 2 + (b.cost + 2 + (c.cost + 2 + 0)) + 3 ≤ _
    have := ha.ct; have := hb.ct; have := hc.ct; omega
  · cases e
    simp only [List.mem_cons, List.not_mem_nil, or_false] at hi
    rcases hi with z | z | z
    · exact ha.i0 i z.symm
    · exact hb.i0 i z.symm
    · exact hc.i0 i z.symm
/-- one item instead of another -/
theorem at4 {k m n : Nat} {a b c e u : D} (ha : ∀ v ∈ [a, b, c, e], Vk k m v) (hm : m ≤ n) (hu : Vk k n u) (j : Int) (j0 : 0 ≤ j) (j1 : j < 4) : Wr (.tup (DL.cutD [a, b, c, e] none (some j) ++ [u] ++ DL.cutD [a, b, c, e] (some (j + 1)) none)) ∧ Vk (k + 1) (3 * m + n + 11) (.tup (DL.cutD [a, b, c, e] none (some j) ++ [u] ++ DL.cutD [a, b, c, e] (some (j + 1)) none)) := by
  have va := ha a (by simp)
  have vb := ha b (by simp)
  have vc := ha c (by simp)
  have ve := ha e (by simp)
  have key : ∀ (a b c e : D), Vk k n a → Vk k n b → Vk k n c → Vk k n e → Wr (.tup [a, b, c, e]) := fun a b c e h1 h2 h3 h4 => by
    refine wrong4 (k := k) (n := n) a b c e fun v hv => ?_
    simp only [List.mem_cons, List.not_mem_nil, or_false] at hv
    rcases hv with z | z | z | z <;> rw [z] <;> assumption
  have up : ∀ {v : D}, Vk k m v → Vk k n v := fun h => h.mono (Nat.le_refl _) hm
  have : j = 0 ∨ j = 1 ∨ j = 2 ∨ j = 3 := by omega
  rcases this with z | z | z | z <;> subst z
  · exact ⟨key u b c e hu (up vb) (up vc) (up ve), (Vk.tup4 hu vb vc ve).mono (Nat.le_refl _) (by omega)⟩
  · exact ⟨key a u c e (up va) hu (up vc) (up ve), (Vk.tup4 va hu vc ve).mono (Nat.le_refl _) (by omega)⟩
  · exact ⟨key a b u e (up va) (up vb) hu (up ve), (Vk.tup4 va vb hu ve).mono (Nat.le_refl _) (by omega)⟩
  · exact ⟨key a b c u (up va) (up vb) (up vc) hu, (Vk.tup4 va vb vc hu).mono (Nat.le_refl _) (by omega)⟩
theorem at2 {k m n : Nat} {a b u : D} (ha : ∀ v ∈ [a, b], Vk k m v) (hm : m ≤ n) (hu : Vk k n u) (j : Int) (j0 : 0 ≤ j) (j1 : j < 2) : Wr (.tup (DL.cutD [a, b] none (some j) ++ [u] ++ DL.cutD [a, b] (some (j + 1)) none)) ∧ Vk (k + 1) (m + n + 7) (.tup (DL.cutD [a, b] none (some j) ++ [u] ++ DL.cutD [a, b] (some (j + 1)) none)) := by
  have va := ha a (by simp)
  have vb := ha b (by simp)
  have key : ∀ a b : D, Vk k n a → Vk k n b → Wr (.tup [a, b]) := fun a b h1 h2 => by
    refine wrong2 (k := k) (n := n) a b fun v hv => ?_
    simp only [List.mem_cons, List.not_mem_nil, or_false] at hv
    rcases hv with z | z <;> rw [z] <;> assumption
  have up : ∀ {v : D}, Vk k m v → Vk k n v := fun h => h.mono (Nat.le_refl _) hm
  have : j = 0 ∨ j = 1 := by omega
  rcases this with z | z <;> subst z
  · exact ⟨key u b hu (up vb), (Vk.tup2 hu vb).mono (Nat.le_refl _) (by omega)⟩
  · exact ⟨key a u (up va) hu, (Vk.tup2 va hu).mono (Nat.le_refl _) (by omega)⟩
theorem bad_vk {k n : Nat} {v : D} (hv : Vk k n v) : Vk (k + 1) (n + 1019) (.tup [.str "bad", v, .bl true]) :=
  (Vk.tup3 ((Vk.str (s := "bad") (by decide +kernel) (by decide +kernel)).mono (Nat.zero_le k) (Nat.le_refl _)) hv ((Vk.bl true).mono (Nat.zero_le k) (Nat.le_refl _))).mono (Nat.le_refl _) (by omega)
theorem told_bad : decide ((Str.ofString "told" : Str) = Str.ofString "bad") = false := by decide +kernel
theorem is_number_any (a : D) (ha : a.okR = true) (h : ∀ b : Bool, (b = true ↔ NumB a) → q (.bl b)) : fn_is_number [a] q x := by
  rw [fn_is_number_eq]; unfold g_is_number
  refine ⟨rfl, ?_⟩
  dsimp only [fSeq, fIfS, fRet, fRetN, fDrop, fAsg, fName, fGseq, fGtup, fGcons, fGnil, fVar, fK, f1, f2, fNil, fCons, fTup, fLst, fCall, fCall0, fCallG, fCallK, fCallK0, fRaise, fTry, tryX, fTest, gNot, gAnd, gOr, hAnd, hOr, hNot, fIf, fPar2, fPar3, fSkip, fNever, fBrk, fCnt, fIt, fItT, fItL, fFor, forL, startD, entry, pick, D.isNon,
  DL.lt', DL.le', DL.gt', DL.ge', fSl, fPart, fNo, List.map_cons, List.map_nil, List.length_cons, List.length_nil, List.append_nil, List.nil_append, List.cons_append, List.getElem?_cons_zero, List.getElem?_cons_succ, List.set_cons_zero, List.set_cons_succ, List.replicate_succ, List.replicate_zero, List.filterMap_cons, List.filterMap_nil, Nat.zero_add, Nat.reduceAdd, if_true, if_false, Bool.false_eq_true]
  exact number_value_any _ _ a ha h
end

end K01

set_option exponentiation.threshold 10000
namespace K01
open PySem PySem.Spec PyProof.Rows L2 DL DN
theorem fraction_go (q : D → Prop) (x : XD) {c t b : Int} (hb : b ≠ 0) (hbb : b.natAbs ≤ 90000) (h : q (nd (⟨(t : Rat) / b, 0⟩ : El c))) : fn__law_fraction [.int t, .int b] q x := by
  rw [fn__law_fraction_eq]; unfold g__law_fraction
  refine ⟨rfl, ?_⟩
  dsimp only [fSeq, fIfS, fRet, fRetN, fDrop, fAsg, fName, fGseq, fGtup, fGcons, fGnil, fVar, fK, f1, f2, fNil, fCons, fTup, fLst, fCall, fCall0, fCallG, fCallK, fCallK0, fRaise, fTry, tryX, fTest, gNot, gAnd, gOr, hAnd, hOr, hNot, fIf, fPar2, fPar3, fSkip, fNever, fBrk, fCnt, fIt, fItT, fItL, fFor, forL, startD, entry, pick, D.isNon,
  DL.lt', DL.le', DL.gt', DL.ge', fSl, fPart, fNo, List.map_cons, List.map_nil, List.length_cons, List.length_nil, List.append_nil, List.nil_append, List.cons_append, List.getElem?_cons_zero, List.getElem?_cons_succ, List.set_cons_zero, List.set_cons_succ, List.replicate_succ, List.replicate_zero, List.filterMap_cons, List.filterMap_nil, Nat.zero_add, Nat.reduceAdd, if_true, if_false, Bool.false_eq_true]
  show fn__law_made _ _ _
  have z0 : ((0 : Int) : Rat) = 0 := rfl
  exact made_of q x (d := c) (e := ⟨(t : Rat) / b, 0⟩) hb (div_mul_s hb) (by show ((0 : Int) : Rat) = 0 * (b : Rat); rw [z0]; grind) (Nat.lt_of_le_of_lt (Nat.le_trans hbb (show 90000 ≤ 2 ^ 20 by decide)) (Nat.pow_lt_pow_right (by decide) (by decide))) (fun z => absurd rfl z) (fun _ => rfl) h
theorem instead_at (q : D → Prop) (x : XD) (l : List D) (k : Int) (t : D) (hl : l.length ≤ 1000) (h : q (.tup (DL.cutD l none (some k) ++ [t] ++ DL.cutD l (some (k + 1)) none))) : fn__law_instead [.tup l, .int k, t] q x := by
  rw [fn__law_instead_eq]; unfold g__law_instead
  refine ⟨rfl, ?_⟩
  dsimp only [fSeq, fIfS, fRet, fRetN, fDrop, fAsg, fName, fGseq, fGtup, fGcons, fGnil, fVar, fK, f1, f2, fNil, fCons, fTup, fLst, fCall, fCall0, fCallG, fCallK, fCallK0, fRaise, fTry, tryX, fTest, gNot, gAnd, gOr, hAnd, hOr, hNot, fIf, fPar2, fPar3, fSkip, fNever, fBrk, fCnt, fIt, fItT, fItL, fFor, forL, startD, entry, pick, D.isNon,
  DL.lt', DL.le', DL.gt', DL.ge', fSl, fPart, fNo, List.map_cons, List.map_nil, List.length_cons, List.length_nil, List.append_nil, List.nil_append, List.cons_append, List.getElem?_cons_zero, List.getElem?_cons_succ, List.set_cons_zero, List.set_cons_succ, List.replicate_succ, List.replicate_zero, List.filterMap_cons, List.filterMap_nil, Nat.zero_add, Nat.reduceAdd, if_true, if_false, Bool.false_eq_true]
  simp only [Nat.sub_self, Nat.reduceSub, List.replicate_zero, List.map_cons, List.map_nil, List.cons_append, List.nil_append, List.append_nil, List.getElem?_cons_zero, List.getElem?_cons_succ, List.set_cons_zero, List.set_cons_succ, List.length_cons, List.length_nil, Nat.zero_add, Nat.reduceAdd, Nat.reduceLT, Nat.reduceLeDiff, ev_add_int, ev_add_lst, ev_add_tup, ev_add_str, ev_cat, ev_cmp, ev_sub, ev_mul, ev_div, ev_mod, ev_pow, ev_max2, ev_min2, ev_gcd, ev_neg, ev_abs, ev_int, ev_intb, ev_len_tup, ev_len_lst, ev_tuple_tup, ev_tuple_lst, ev_list_tup, ev_list_lst, ev_rev, ev_rep, ev_ix0t, ev_ix1t, ev_ix2t, ev_ix0l, ev_ix1l, ev_eq_int, ev_eq_str, ev_isn, ev_is2n, ev_is2b, ev_ty_non, ev_ty_bl, ev_ty_int, ev_ty_str, ev_ty_tup, ev_ty_lst]
  have h1 := cut_length l none (some k)
  have h2 := cut_length l (some (k + 1)) none
  exact ⟨LNle (by decide), LNle (by omega), LNle (by rw [List.length_append, List.length_singleton]; omega), h⟩
theorem for_split {fi : FI} {t : FG} {b : FS} {ρ : Ro} {d : DEnds} (h : ∀ F : List D → Prop, F = (fun ds => forL t b d ds ρ) → fi ρ F d.x) : fFor fi t b ρ d := h _ rfl
abbrev lst1 (a d : Addr) (s2 s3 s4 s5 s6 s7 s8 s9 s10 : Option D) : Ro := [some (.ref a), some (.ref d), s2, s3, s4, s5, s6, s7, s8, s9, s10]
theorem G_law (a d : Addr) : g_law d (lawStart 11 a d) lawEnds := by
  unfold g_law
  obtain ⟨E, hE⟩ : ∃ E, E = lawEnds := ⟨_, rfl⟩
  have e1 : E.rt = fun r => r = .bl true := by rw [hE]
  have e2 : E.x = fun _ _ => False := by rw [hE]
  rw [← hE]
  clear hE
  refine fSeq_split fun R hR => ?_
  dsimp only [fSeq, fIfS, fRet, fRetN, fDrop, fAsg, fName, fGseq, fGtup, fGcons, fGnil, fVar, fK, f1, f2, fNil, fCons, fTup, fLst, fCall, fCall0, fCallG, fCallK, fCallK0, fRaise, fTry, tryX, fTest, gNot, gAnd, gOr, hAnd, hOr, hNot, fIf, fPar2, fPar3, fSkip, fNever, fBrk, fCnt, fIt, fItT, fItL, fFor, forL, startD, entry, pick, D.isNon,
  DL.lt', DL.le', DL.gt', DL.ge', fSl, fPart, fNo, List.map_cons, List.map_nil, List.length_cons, List.length_nil, List.append_nil, List.nil_append, List.cons_append, List.getElem?_cons_zero, List.getElem?_cons_succ, List.set_cons_zero, List.set_cons_succ, List.replicate_succ, List.replicate_zero, List.filterMap_cons, List.filterMap_nil, Nat.zero_add, Nat.reduceAdd, if_true, if_false, Bool.false_eq_true, lawStart]
  simp only [Nat.sub_self, Nat.reduceSub, List.replicate_zero, List.map_cons, List.map_nil, List.cons_append, List.nil_append, List.append_nil, List.getElem?_cons_zero, List.getElem?_cons_succ, List.set_cons_zero, List.set_cons_succ, List.length_cons, List.length_nil, Nat.zero_add, Nat.reduceAdd, Nat.reduceLT, Nat.reduceLeDiff, true_and, e1, e2]
  refine squares_right_go _ _ ?_
  simp only [Bool.not_true, Bool.false_eq_true, if_false]
  rw [hR]; clear hR R
  refine fSeq_split fun R hR => ?_
  simp only [fRg1, fSeq, fIfS, fRet, fRetN, fDrop, fAsg, fName, fGseq, fGtup, fGcons, fGnil, fVar, fK, f1, f2, fNil, fCons, fTup, fLst, fCall, fCall0, fCallG, fCallK, fCallK0, fRaise, fTry, tryX, fTest, gNot, gAnd, gOr, hAnd, hOr, hNot, fIf, fPar2, fPar3, fSkip, fNever, fBrk, fCnt, fIt, fItT, fItL, fFor, forL, startD, entry, pick, D.isNon,
  DL.lt', DL.le', DL.gt', DL.ge', fSl, fPart, fNo, List.map_cons, List.map_nil, List.length_cons, List.length_nil, List.append_nil, List.nil_append, List.cons_append, List.getElem?_cons_zero, List.getElem?_cons_succ, List.set_cons_zero, List.set_cons_succ, List.replicate_succ, List.replicate_zero, List.filterMap_cons, List.filterMap_nil, Nat.zero_add, Nat.reduceAdd, if_true, if_false, Bool.false_eq_true, Nat.sub_self, Nat.reduceSub, List.replicate_zero, List.map_cons, List.map_nil, List.cons_append, List.nil_append, List.append_nil, List.getElem?_cons_zero, List.getElem?_cons_succ, List.set_cons_zero, List.set_cons_succ, List.length_cons, List.length_nil, Nat.zero_add, Nat.reduceAdd, Nat.reduceLT, Nat.reduceLeDiff, e1, e2]
  refine ⟨by omega, by omega, ?_⟩
  rw [show (4 : Int).toNat = 4 from rfl, rangeD_nat]
  refine forL_map (f := fun i : Nat => D.int (i : Nat)) (fun rest ρ => ∃ s2 s3 s4 s5 s6 s7 s8 s9 s10 : Option D, ρ = lst1 a d s2 s3 s4 s5 s6 s7 s8 s9 s10) ?_ ?_ _ _ ⟨_, _, _, _, _, _, _, _, _, rfl⟩
  · rintro ρ ⟨s2, s3, s4, s5, s6, s7, s8, s9, s10, rfl⟩
    show R _ E
    rw [hR]; clear hR R
    simp only [fSeq, fIfS, fRet, fRetN, fDrop, fAsg, fName, fGseq, fGtup, fGcons, fGnil, fVar, fK, f1, f2, fNil, fCons, fTup, fLst, fCall, fCall0, fCallG, fCallK, fCallK0, fRaise, fTry, tryX, fTest, gNot, gAnd, gOr, hAnd, hOr, hNot, fIf, fPar2, fPar3, fSkip, fNever, fBrk, fCnt, fIt, fItT, fItL, fFor, forL, startD, entry, pick, D.isNon,
  DL.lt', DL.le', DL.gt', DL.ge', fSl, fPart, fNo, List.map_cons, List.map_nil, List.length_cons, List.length_nil, List.append_nil, List.nil_append, List.cons_append, List.getElem?_cons_zero, List.getElem?_cons_succ, List.set_cons_zero, List.set_cons_succ, List.replicate_succ, List.replicate_zero, List.filterMap_cons, List.filterMap_nil, Nat.zero_add, Nat.reduceAdd, if_true, if_false, Bool.false_eq_true, e1]
  rintro i rest ρ ⟨s2, s3, s4, s5, s6, s7, s8, s9, s10, rfl⟩ nx hn
  refine ⟨show (2 : Nat) < 11 by decide, ?_⟩
  refine ends_split fun E2 m1 m2 m3 => ?_
  have n1 : E2.nx = nx := m1
  have n2 : E2.rt = fun r => r = .bl true := m2
  have n3 : E2.x = fun _ _ => False := m3
  clear m1 m2 m3 e1 e2 E
  clear hR R
  refine fSeq_split fun R hR => ?_
  simp only [fSeq, fIfS, fRet, fRetN, fDrop, fAsg, fName, fGseq, fGtup, fGcons, fGnil, fVar, fK, f1, f2, fNil, fCons, fTup, fLst, fCall, fCall0, fCallG, fCallK, fCallK0, fRaise, fTry, tryX, fTest, gNot, gAnd, gOr, hAnd, hOr, hNot, fIf, fPar2, fPar3, fSkip, fNever, fBrk, fCnt, fIt, fItT, fItL, fFor, forL, startD, entry, pick, D.isNon,
  DL.lt', DL.le', DL.gt', DL.ge', fSl, fPart, fNo, List.map_cons, List.map_nil, List.length_cons, List.length_nil, List.append_nil, List.nil_append, List.cons_append, List.getElem?_cons_zero, List.getElem?_cons_succ, List.set_cons_zero, List.set_cons_succ, List.replicate_succ, List.replicate_zero, List.filterMap_cons, List.filterMap_nil, Nat.zero_add, Nat.reduceAdd, if_true, if_false, Bool.false_eq_true, Nat.sub_self, Nat.reduceSub, List.replicate_zero, List.map_cons, List.map_nil, List.cons_append, List.nil_append, List.append_nil, List.getElem?_cons_zero, List.getElem?_cons_succ, List.set_cons_zero, List.set_cons_succ, List.length_cons, List.length_nil, Nat.zero_add, Nat.reduceAdd, Nat.reduceLT, Nat.reduceLeDiff, true_and, n2, n3]
  refine wide_go _ _ fun p r s d hp hr hs hd s0 d0 => ?_
  obtain ⟨c, rq, hc, e, se, ⟨n1', n2', n3', n4', ne4, nh4⟩, as, du⟩ := wide_ans2 hp hr hs hd s0 d0
  rw [hR]; clear hR R
  refine fSeq_split fun R hR => ?_
  simp only [fSeq, fIfS, fRet, fRetN, fDrop, fAsg, fName, fGseq, fGtup, fGcons, fGnil, fVar, fK, f1, f2, fNil, fCons, fTup, fLst, fCall, fCall0, fCallG, fCallK, fCallK0, fRaise, fTry, tryX, fTest, gNot, gAnd, gOr, hAnd, hOr, hNot, fIf, fPar2, fPar3, fSkip, fNever, fBrk, fCnt, fIt, fItT, fItL, fFor, forL, startD, entry, pick, D.isNon,
  DL.lt', DL.le', DL.gt', DL.ge', fSl, fPart, fNo, List.map_cons, List.map_nil, List.length_cons, List.length_nil, List.append_nil, List.nil_append, List.cons_append, List.getElem?_cons_zero, List.getElem?_cons_succ, List.set_cons_zero, List.set_cons_succ, List.replicate_succ, List.replicate_zero, List.filterMap_cons, List.filterMap_nil, Nat.zero_add, Nat.reduceAdd, if_true, if_false, Bool.false_eq_true, Nat.sub_self, Nat.reduceSub, List.replicate_zero, List.map_cons, List.map_nil, List.cons_append, List.nil_append, List.append_nil, List.getElem?_cons_zero, List.getElem?_cons_succ, List.set_cons_zero, List.set_cons_succ, List.length_cons, List.length_nil, Nat.zero_add, Nat.reduceAdd, Nat.reduceLT, Nat.reduceLeDiff, true_and, n2, n3]
  refine du _ _ ?_
  rw [ev_ix1t]
  rw [hR]; clear hR R
  refine fSeq_split fun R hR => ?_
  simp only [fSeq, fIfS, fRet, fRetN, fDrop, fAsg, fName, fGseq, fGtup, fGcons, fGnil, fVar, fK, f1, f2, fNil, fCons, fTup, fLst, fCall, fCall0, fCallG, fCallK, fCallK0, fRaise, fTry, tryX, fTest, gNot, gAnd, gOr, hAnd, hOr, hNot, fIf, fPar2, fPar3, fSkip, fNever, fBrk, fCnt, fIt, fItT, fItL, fFor, forL, startD, entry, pick, D.isNon,
  DL.lt', DL.le', DL.gt', DL.ge', fSl, fPart, fNo, List.map_cons, List.map_nil, List.length_cons, List.length_nil, List.append_nil, List.nil_append, List.cons_append, List.getElem?_cons_zero, List.getElem?_cons_succ, List.set_cons_zero, List.set_cons_succ, List.replicate_succ, List.replicate_zero, List.filterMap_cons, List.filterMap_nil, Nat.zero_add, Nat.reduceAdd, if_true, if_false, Bool.false_eq_true, Nat.sub_self, Nat.reduceSub, List.replicate_zero, List.map_cons, List.map_nil, List.cons_append, List.nil_append, List.append_nil, List.getElem?_cons_zero, List.getElem?_cons_succ, List.set_cons_zero, List.set_cons_succ, List.length_cons, List.length_nil, Nat.zero_add, Nat.reduceAdd, Nat.reduceLT, Nat.reduceLeDiff, true_and, n2, n3]
  refine as _ _ _ (as _ _ _ ⟨LNle (by decide), ?_⟩)
  have hd9 : c.natAbs < 2 ^ 1900 := Nat.lt_of_le_of_lt (Nat.le_trans hc (show 10 ^ 12 ≤ 2 ^ 40 by decide)) (Nat.pow_lt_pow_right (by decide) (by decide))
  have rT : Rp (.tup [.str "told", nd e]) 20000 := ((rp_str (by decide +kernel) (by decide +kernel)).tup2 (Sx.rp rq.rt hd9 se (by decide)) (by decide) (show 1 ≤ 9 by decide)).mono (by decide)
  have rTT : Rp (.tup [.tup [.str "told", nd e], .tup [.str "told", nd e]]) 50000 := (rT.tup2 rT (show 2 ≤ 9 by decide) (show 2 ≤ 9 by decide)).mono (by decide)
  refine repPT _ _ rTT (by decide) (du _ _ ⟨LNle (by decide), ?_⟩)
  simp only [sRepT]
  refine ⟨Nat.le_of_ble_eq_true rfl, by decide, by decide, ?_⟩
  show sReprT (.tup [.tup [.str "told", nd e], .tup [.str "told", nd e]]) _ _
  refine ⟨trivial, repPT _ _ rTT (by decide) ?_⟩
  rw [sEq_str]
  simp only [decide_true, Bool.true_xor, Bool.not_true, Bool.false_eq_true, if_false]
  refine is_number_go _ _ rq.rt e ?_
  simp only [ev_is2b, decide_true, Bool.true_xor, Bool.not_true, Bool.false_eq_true, if_false]
  rw [hR]; clear hR R
  refine fSeq_split fun R hR => ?_
  simp only [fSeq, fIfS, fRet, fRetN, fDrop, fAsg, fName, fGseq, fGtup, fGcons, fGnil, fVar, fK, f1, f2, fNil, fCons, fTup, fLst, fCall, fCall0, fCallG, fCallK, fCallK0, fRaise, fTry, tryX, fTest, gNot, gAnd, gOr, hAnd, hOr, hNot, fIf, fPar2, fPar3, fSkip, fNever, fBrk, fCnt, fIt, fItT, fItL, fFor, forL, startD, entry, pick, D.isNon,
  DL.lt', DL.le', DL.gt', DL.ge', fSl, fPart, fNo, List.map_cons, List.map_nil, List.length_cons, List.length_nil, List.append_nil, List.nil_append, List.cons_append, List.getElem?_cons_zero, List.getElem?_cons_succ, List.set_cons_zero, List.set_cons_succ, List.replicate_succ, List.replicate_zero, List.filterMap_cons, List.filterMap_nil, Nat.zero_add, Nat.reduceAdd, if_true, if_false, Bool.false_eq_true, Nat.sub_self, Nat.reduceSub, List.replicate_zero, List.map_cons, List.map_nil, List.cons_append, List.nil_append, List.append_nil, List.getElem?_cons_zero, List.getElem?_cons_succ, List.set_cons_zero, List.set_cons_succ, List.length_cons, List.length_nil, Nat.zero_add, Nat.reduceAdd, Nat.reduceLT, Nat.reduceLeDiff, true_and, n2, n3]
  refine for_root_go _ _ fun t b ht hb b0 => ?_
  obtain ⟨c', rq', hc', f, sf, as', du', ff⟩ := root_ans ht hb b0
  rw [hR]; clear hR R
  refine fSeq_split fun R hR => ?_
  simp only [fSeq, fIfS, fRet, fRetN, fDrop, fAsg, fName, fGseq, fGtup, fGcons, fGnil, fVar, fK, f1, f2, fNil, fCons, fTup, fLst, fCall, fCall0, fCallG, fCallK, fCallK0, fRaise, fTry, tryX, fTest, gNot, gAnd, gOr, hAnd, hOr, hNot, fIf, fPar2, fPar3, fSkip, fNever, fBrk, fCnt, fIt, fItT, fItL, fFor, forL, startD, entry, pick, D.isNon,
  DL.lt', DL.le', DL.gt', DL.ge', fSl, fPart, fNo, List.map_cons, List.map_nil, List.length_cons, List.length_nil, List.append_nil, List.nil_append, List.cons_append, List.getElem?_cons_zero, List.getElem?_cons_succ, List.set_cons_zero, List.set_cons_succ, List.replicate_succ, List.replicate_zero, List.filterMap_cons, List.filterMap_nil, Nat.zero_add, Nat.reduceAdd, if_true, if_false, Bool.false_eq_true, Nat.sub_self, Nat.reduceSub, List.replicate_zero, List.map_cons, List.map_nil, List.cons_append, List.nil_append, List.append_nil, List.getElem?_cons_zero, List.getElem?_cons_succ, List.set_cons_zero, List.set_cons_succ, List.length_cons, List.length_nil, Nat.zero_add, Nat.reduceAdd, Nat.reduceLT, Nat.reduceLeDiff, true_and, n2, n3]
  refine draw_go _ _ _ (by decide) (by decide) fun w w0 w1 => as' _ _ _ ?_
  rw [hR]; clear hR R
  have hd9' : c'.natAbs < 2 ^ 1900 := Nat.lt_of_le_of_lt (Nat.le_trans hc' (show 10 ^ 12 ≤ 2 ^ 40 by decide)) (Nat.pow_lt_pow_right (by decide) (by decide))
  have rF : Rp (.tup [.str "told", nd f]) 20000 := ((rp_str (by decide +kernel) (by decide +kernel)).tup2 (Sx.rp rq'.rt hd9' sf (by decide)) (by decide) (show 1 ≤ 9 by decide)).mono (by decide)
  refine fSeq_split fun R hR => ?_
  simp only [fSeq, fIfS, fRet, fRetN, fDrop, fAsg, fName, fGseq, fGtup, fGcons, fGnil, fVar, fK, f1, f2, fNil, fCons, fTup, fLst, fCall, fCall0, fCallG, fCallK, fCallK0, fRaise, fTry, tryX, fTest, gNot, gAnd, gOr, hAnd, hOr, hNot, fIf, fPar2, fPar3, fSkip, fNever, fBrk, fCnt, fIt, fItT, fItL, fFor, forL, startD, entry, pick, D.isNon,
  DL.lt', DL.le', DL.gt', DL.ge', fSl, fPart, fNo, List.map_cons, List.map_nil, List.length_cons, List.length_nil, List.append_nil, List.nil_append, List.cons_append, List.getElem?_cons_zero, List.getElem?_cons_succ, List.set_cons_zero, List.set_cons_succ, List.replicate_succ, List.replicate_zero, List.filterMap_cons, List.filterMap_nil, Nat.zero_add, Nat.reduceAdd, if_true, if_false, Bool.false_eq_true, Nat.sub_self, Nat.reduceSub, List.replicate_zero, List.map_cons, List.map_nil, List.cons_append, List.nil_append, List.append_nil, List.getElem?_cons_zero, List.getElem?_cons_succ, List.set_cons_zero, List.set_cons_succ, List.length_cons, List.length_nil, Nat.zero_add, Nat.reduceAdd, Nat.reduceLT, Nat.reduceLeDiff, true_and, n2, n3, ev_ix0t, ev_ix1t]
  refine repPT _ _ rF (by decide) (du' _ _ ⟨trivial, repPT _ _ rF (by decide) ?_⟩)
  rw [sEq_str]
  simp only [decide_true, Bool.true_xor, Bool.not_true, Bool.false_eq_true, if_false]
  refine times_go _ _ rq'.rt (Sx.sm rq'.rt sf (by decide)) (Sx.sm rq'.rt sf (by decide)) ?_
  refine repNN _ _ rq'.rt hd9' ((sf.mul sf).mono (by decide)) (fraction_go (c := c') _ _ b0 hb ?_)
  rw [← ff]
  refine repNN _ _ rq'.rt hd9' ((sf.mul sf).mono (by decide)) ?_
  rw [sEq_str]
  simp only [decide_true, Bool.true_xor, Bool.not_true, Bool.false_eq_true, if_false]
  rw [hR]; clear hR R
  refine fSeq_split fun R hR => ?_
  simp only [fPar2, fSeq, fIfS, fRet, fRetN, fDrop, fAsg, fName, fGseq, fGtup, fGcons, fGnil, fVar, fK, f1, f2, fNil, fCons, fTup, fLst, fCall, fCall0, fCallG, fCallK, fCallK0, fRaise, fTry, tryX, fTest, gNot, gAnd, gOr, hAnd, hOr, hNot, fIf, fPar2, fPar3, fSkip, fNever, fBrk, fCnt, fIt, fItT, fItL, fFor, forL, startD, entry, pick, D.isNon,
  DL.lt', DL.le', DL.gt', DL.ge', fSl, fPart, fNo, List.map_cons, List.map_nil, List.length_cons, List.length_nil, List.append_nil, List.nil_append, List.cons_append, List.getElem?_cons_zero, List.getElem?_cons_succ, List.set_cons_zero, List.set_cons_succ, List.replicate_succ, List.replicate_zero, List.filterMap_cons, List.filterMap_nil, Nat.zero_add, Nat.reduceAdd, if_true, if_false, Bool.false_eq_true, Nat.sub_self, Nat.reduceSub, List.replicate_zero, List.map_cons, List.map_nil, List.cons_append, List.nil_append, List.append_nil, List.getElem?_cons_zero, List.getElem?_cons_succ, List.set_cons_zero, List.set_cons_succ, List.length_cons, List.length_nil, Nat.zero_add, Nat.reduceAdd, Nat.reduceLT, Nat.reduceLeDiff, true_and, n2, n3]
  refine draw_go _ _ _ (by decide) (by decide) fun at1 a0 a1 => any_go _ _ fun av hav => ?_
  refine ⟨LNle (by decide), LNle (by decide), LNle (by decide), pick_go _ _ _ (by simp) (show 7 < 1073741824 by decide) fun od hod => ?_⟩
  have vo : Vk 6 300000 od := by
    simp only [List.mem_cons, List.not_mem_nil, or_false] at hod
    rcases hod with z | z | z | z | z | z | z <;> rw [z]
    · exact (Vk.int (by decide)).mono (by decide) (by decide)
    · exact Vk.non.mono (by decide) (by decide)
    · exact (Vk.bl _).mono (by decide) (by decide)
    · exact (Vk.str (by decide +kernel) (by decide +kernel)).mono (by decide) (by decide)
    · exact hav
    · exact (Vk.tup (m := 1) (fun a ha => by rw [List.mem_singleton.mp ha]; exact Vk.int (by decide)) (Nat.le_refl _)).mono (by decide) (by decide)
    · exact (Vk.lst (m := 1) (fun a ha => by rw [List.mem_singleton.mp ha]; exact Vk.int (by decide)) (Nat.le_refl _)).mono (by decide) (by decide)
  rw [hR]; clear hR R
  refine fSeq_split fun R hR => for_split fun F hF => ?_
  simp only [fIt, fSeq, fIfS, fRet, fRetN, fDrop, fAsg, fName, fGseq, fGtup, fGcons, fGnil, fVar, fK, f1, f2, fNil, fCons, fTup, fLst, fCall, fCall0, fCallG, fCallK, fCallK0, fRaise, fTry, tryX, fTest, gNot, gAnd, gOr, hAnd, hOr, hNot, fIf, fPar2, fPar3, fSkip, fNever, fBrk, fCnt, fIt, fItT, fItL, fFor, forL, startD, entry, pick, D.isNon,
  DL.lt', DL.le', DL.gt', DL.ge', fSl, fPart, fNo, List.map_cons, List.map_nil, List.length_cons, List.length_nil, List.append_nil, List.nil_append, List.cons_append, List.getElem?_cons_zero, List.getElem?_cons_succ, List.set_cons_zero, List.set_cons_succ, List.replicate_succ, List.replicate_zero, List.filterMap_cons, List.filterMap_nil, Nat.zero_add, Nat.reduceAdd, if_true, if_false, Bool.false_eq_true, Nat.sub_self, Nat.reduceSub, List.replicate_zero, List.map_cons, List.map_nil, List.cons_append, List.nil_append, List.append_nil, List.getElem?_cons_zero, List.getElem?_cons_succ, List.set_cons_zero, List.set_cons_succ, List.length_cons, List.length_nil, Nat.zero_add, Nat.reduceAdd, Nat.reduceLT, Nat.reduceLeDiff, true_and, n2, n3]
  refine instead_at _ _ _ _ _ (Nat.le_of_ble_eq_true rfl) ?_
  refine draw_go _ _ _ (by decide) (by decide) fun k k0 k1 => ?_
  refine instead_at _ _ _ _ _ (Nat.le_of_ble_eq_true rfl) ⟨LNle (by decide), LNle (by decide), ?_⟩
  rw [hF]; clear hF F
  have vi : ∀ {i : Int}, i.natAbs ≤ 10 ^ 40 → Vk 6 2000 (.int i) := fun h => (Vk.int h).mono (by decide) (by decide)
  have p30 : (10 : Nat) ^ 30 ≤ 10 ^ 40 := by decide
  have p8 : (10 : Nat) ^ 8 ≤ 10 ^ 40 := by decide
  have t90 : 90000 ≤ (10 : Nat) ^ 40 := by decide
  have v4 : ∀ v ∈ [D.int p, .int r, .int s, .int d], Vk 6 2000 v := fun v hv => by
    simp only [List.mem_cons, List.not_mem_nil, or_false] at hv
    rcases hv with z | z | z | z <;> rw [z] <;> exact vi (by omega)
  have v2 : ∀ v ∈ [D.int t, .int b], Vk 6 2000 v := fun v hv => by
    simp only [List.mem_cons, List.not_mem_nil, or_false] at hv
    rcases hv with z | z <;> rw [z] <;> exact vi (by omega)
  have w3 : ∀ v ∈ [D.tup (DL.cutD [D.int p, .int r, .int s, .int d] none (some at1) ++ [od] ++ DL.cutD [D.int p, .int r, .int s, .int d] (some (at1 + 1)) none), D.tup (DL.cutD [D.int t, .int b] none (some k) ++ [od] ++ DL.cutD [D.int t, .int b] (some (k + 1)) none), .tup [od, od]], Wr v ∧ Vk 7 600007 v := fun v hv => by
    simp only [List.mem_cons, List.not_mem_nil, or_false] at hv
    rcases hv with z | z | z <;> rw [z]
    · obtain ⟨h1, h2⟩ := at4 v4 (by decide) vo at1 a0 a1
      exact ⟨h1, h2.mono (by decide) (by decide)⟩
    · obtain ⟨h1, h2⟩ := at2 v2 (by decide) vo k k0 k1
      exact ⟨h1, h2.mono (by decide) (by decide)⟩
    · have : ∀ v ∈ [od, od], Vk 6 300000 v := fun v hv => by
        simp only [List.mem_cons, List.not_mem_nil, or_false, or_self] at hv
        rw [hv]; exact vo
      exact ⟨wrong2 od od this, (Vk.tup2 vo vo).mono (by decide) (by decide)⟩
  refine forL_inv (fun rest ρ => (∀ v ∈ rest, Wr v ∧ Vk 7 600007 v) ∧ ∃ s9 : Option D, ρ = [some (.ref a), some (.ref _), some (.int (i : Nat)), some (.tup [.int p, .int r, .int s, .int d]), some (nd e), some (.tup [.int t, .int b]), some (.tup [.str "told", nd f]), some (.int at1), some od, s9, s10]) ?_ ?_ _ _ ⟨w3, _, rfl⟩
  rotate_left
  · rintro v rest ρ ⟨hv, s9, rfl⟩ ny hy
    obtain ⟨wv, vv⟩ := hv v (List.mem_cons_self ..)
    have fin : ∀ s9, ny [some (.ref a), some (.ref _), some (.int (i : Nat)), some (.tup [.int p, .int r, .int s, .int d]), some (nd e), some (.tup [.int t, .int b]), some (.tup [.str "told", nd f]), some (.int at1), some od, s9, s10] := fun s9 => hy _ ⟨fun u hu => hv u (List.mem_cons_of_mem _ hu), s9, rfl⟩
    refine ⟨show (9 : Nat) < 11 by decide, ?_⟩
    simp only [fSeq, fIfS, fRet, fRetN, fDrop, fAsg, fName, fGseq, fGtup, fGcons, fGnil, fVar, fK, f1, f2, fNil, fCons, fTup, fLst, fCall, fCall0, fCallG, fCallK, fCallK0, fRaise, fTry, tryX, fTest, gNot, gAnd, gOr, hAnd, hOr, hNot, fIf, fPar2, fPar3, fSkip, fNever, fBrk, fCnt, fIt, fItT, fItL, fFor, forL, startD, entry, pick, D.isNon,
  DL.lt', DL.le', DL.gt', DL.ge', fSl, fPart, fNo, List.map_cons, List.map_nil, List.length_cons, List.length_nil, List.append_nil, List.nil_append, List.cons_append, List.getElem?_cons_zero, List.getElem?_cons_succ, List.set_cons_zero, List.set_cons_succ, List.replicate_succ, List.replicate_zero, List.filterMap_cons, List.filterMap_nil, Nat.zero_add, Nat.reduceAdd, if_true, if_false, Bool.false_eq_true, Nat.sub_self, Nat.reduceSub, List.replicate_zero, List.map_cons, List.map_nil, List.cons_append, List.nil_append, List.append_nil, List.getElem?_cons_zero, List.getElem?_cons_succ, List.set_cons_zero, List.set_cons_succ, List.length_cons, List.length_nil, Nat.zero_add, Nat.reduceAdd, Nat.reduceLT, Nat.reduceLeDiff, n2, n3]
    rcases wv with ⟨w1, w2⟩ | ⟨u, w1⟩
    · refine w1 _ _ ?_
      rw [ev_ix0t, ev_eq_str, decide_eq_true rfl]
      simp only [Bool.false_xor, if_true]
      have bk := bad_vk vv
      refine ⟨trivial, draw_go _ _ 2 (by decide) (by decide) fun y y0 y1 => ?_⟩
      refine w2 _ _ _ (repS _ _ ⟨_, rfl⟩ bk.ok bk.sh (Nat.le_trans bk.dp (by decide)) (Nat.le_trans bk.ct (by decide)) (w1 _ _ (repS _ _ ⟨_, rfl⟩ bk.ok bk.sh (Nat.le_trans bk.dp (by decide)) (Nat.le_trans bk.ct (by decide)) ?_)))
      rw [sEq_str]
      simp only [Bool.not_true, Bool.false_eq_true, if_false]
      exact fin _
    · refine w1 _ _ ?_
      rw [ev_ix0t, ev_eq_str, told_bad]
      simp only [Bool.false_xor, Bool.false_eq_true, if_false]
      exact fin _
  rintro ρ ⟨_, s9, rfl⟩
  show R _ E2
  rw [hR]; clear hR R
  refine for_split fun F hF => ?_
  simp only [fIt, fSeq, fIfS, fRet, fRetN, fDrop, fAsg, fName, fGseq, fGtup, fGcons, fGnil, fVar, fK, f1, f2, fNil, fCons, fTup, fLst, fCall, fCall0, fCallG, fCallK, fCallK0, fRaise, fTry, tryX, fTest, gNot, gAnd, gOr, hAnd, hOr, hNot, fIf, fPar2, fPar3, fSkip, fNever, fBrk, fCnt, fIt, fItT, fItL, fFor, forL, startD, entry, pick, D.isNon,
  DL.lt', DL.le', DL.gt', DL.ge', fSl, fPart, fNo, List.map_cons, List.map_nil, List.length_cons, List.length_nil, List.append_nil, List.nil_append, List.cons_append, List.getElem?_cons_zero, List.getElem?_cons_succ, List.set_cons_zero, List.set_cons_succ, List.replicate_succ, List.replicate_zero, List.filterMap_cons, List.filterMap_nil, Nat.zero_add, Nat.reduceAdd, if_true, if_false, Bool.false_eq_true, Nat.sub_self, Nat.reduceSub, List.replicate_zero, List.map_cons, List.map_nil, List.cons_append, List.nil_append, List.append_nil, List.getElem?_cons_zero, List.getElem?_cons_succ, List.set_cons_zero, List.set_cons_succ, List.length_cons, List.length_nil, Nat.zero_add, Nat.reduceAdd, Nat.reduceLT, Nat.reduceLeDiff, true_and, n2, n3]
  rw [ne4]
  refine bent_num _ _ _ _ _ _ nh4 fun t1 ht1 => any_go _ _ fun t2 ht2 => ?_
  dsimp only
  refine ⟨LNle (by decide), ?_⟩
  rw [show DL.cutD [D.int n1', .int n2', .int n3', .int n4'] none (some 3) = [D.int n1', .int n2', .int n3'] from rfl, ev_add_tup]
  refine ⟨LNle (Nat.le_of_ble_eq_true rfl), LNle (by decide), ?_⟩
  rw [hF]; clear hF F
  have vn : ∀ i ∈ [n1', n2', n3', n4'], (D.int i).okR = true := fun i _ => rfl
  have w4 : ∀ v ∈ [t1, D.tup [.int p, .int r, .int s, .int d], t2, .tup ([D.int n1', .int n2', .int n3'] ++ [od])], v.okR = true := fun v hv => by
    simp only [List.mem_cons, List.not_mem_nil, or_false] at hv
    rcases hv with z | z | z | z <;> rw [z]
    · exact ht1.ok
    · rfl
    · exact ht2.ok
    · show (true && (true && (true && (od.okR && true)))) = true
      rw [vo.ok]; rfl
  refine forL_inv (fun rest ρ => (∀ v ∈ rest, v.okR = true) ∧ ∃ s10 : Option D, ρ = [some (.ref a), some (.ref _), some (.int (i : Nat)), some (.tup [.int p, .int r, .int s, .int d]), some (nd e), some (.tup [.int t, .int b]), some (.tup [.str "told", nd f]), some (.int at1), some od, s9, s10]) ?_ ?_ _ _ ⟨w4, _, by rw [ne4]⟩
  · rintro ρ ⟨_, s10, rfl⟩
    rw [n1]
    exact hn _ ⟨_, _, _, _, _, _, _, _, _, rfl⟩
  · rintro v rest ρ ⟨hv, s10, rfl⟩ ny hy
    refine ⟨show (10 : Nat) < 11 by decide, ?_⟩
    simp only [fIfS, fTest, fCallK, pick, fSeq, fIfS, fRet, fRetN, fDrop, fAsg, fName, fGseq, fGtup, fGcons, fGnil, fVar, fK, f1, f2, fNil, fCons, fTup, fLst, fCall, fCall0, fCallG, fCallK, fCallK0, fRaise, fTry, tryX, fTest, gNot, gAnd, gOr, hAnd, hOr, hNot, fIf, fPar2, fPar3, fSkip, fNever, fBrk, fCnt, fIt, fItT, fItL, fFor, forL, startD, entry, pick, D.isNon,
  DL.lt', DL.le', DL.gt', DL.ge', fSl, fPart, fNo, List.map_cons, List.map_nil, List.length_cons, List.length_nil, List.append_nil, List.nil_append, List.cons_append, List.getElem?_cons_zero, List.getElem?_cons_succ, List.set_cons_zero, List.set_cons_succ, List.replicate_succ, List.replicate_zero, List.filterMap_cons, List.filterMap_nil, Nat.zero_add, Nat.reduceAdd, if_true, if_false, Bool.false_eq_true, Nat.sub_self, Nat.reduceSub, List.replicate_zero, List.map_cons, List.map_nil, List.cons_append, List.nil_append, List.append_nil, List.getElem?_cons_zero, List.getElem?_cons_succ, List.set_cons_zero, List.set_cons_succ, List.length_cons, List.length_nil, Nat.zero_add, Nat.reduceAdd, Nat.reduceLT, Nat.reduceLeDiff, n2, n3]
    have ho := hv v (List.mem_cons_self ..)
    refine is_number_any _ _ v ho fun b1 h1 => ⟨trivial, trivial, is_number_any _ _ v ho fun b2 h2 => ?_⟩
    obtain rfl : b2 = b1 := Bool.eq_iff_iff.mpr (h2.trans h1.symm)
    have vb := Vk.tup2 (Vk.bl b2) (Vk.bl b2)
    refine ⟨LNle (by decide), repS _ _ ⟨_, rfl⟩ vb.ok vb.sh (Nat.le_trans vb.dp (by decide)) (Nat.le_trans vb.ct (by decide)) (law_number_any _ _ v ho fun b3 h3 => ⟨LNle (by decide), ?_⟩)⟩
    obtain rfl : b3 = b2 := Bool.eq_iff_iff.mpr (h3.trans h2.symm)
    simp only [sRepT]
    refine ⟨Nat.le_of_ble_eq_true rfl, by decide, by decide, ?_⟩
    show sReprT (.tup [.bl b3, .bl b3]) _ _
    refine repS _ _ ⟨_, rfl⟩ vb.ok vb.sh (Nat.le_trans vb.dp (by decide)) (Nat.le_trans vb.ct (by decide)) ?_
    rw [sEq_str]
    simp only [Bool.not_true, Bool.false_eq_true, if_false]
    exact hy _ ⟨fun u hu => hv u (List.mem_cons_of_mem _ hu), _, rfl⟩

end K01

namespace K01
open PySem PySem.Spec PyProof.Rows L2 DL
def d_is_whole : He.DefD := ⟨("is_whole", none), "is_whole", "is_whole", defArgs (top 8), defBody (top 8), defScope (top 8), [], []⟩
def d_square_root : He.DefD := ⟨("square_root", none), "square_root", "square_root", defArgs (top 9), defBody (top 9), defScope (top 9), [], []⟩
def d_square_parts : He.DefD := ⟨("square_parts", none), "square_parts", "square_parts", defArgs (top 10), defBody (top 10), defScope (top 10), [], []⟩
def d_is_squarefree : He.DefD := ⟨("is_squarefree", none), "is_squarefree", "is_squarefree", defArgs (top 11), defBody (top 11), defScope (top 11), [], []⟩
def d_is_number_value : He.DefD := ⟨("is_number_value", none), "is_number_value", "is_number_value", defArgs (top 12), defBody (top 12), defScope (top 12), [], []⟩
def d_need_number : He.DefD := ⟨("need_number", none), "need_number", "need_number", defArgs (top 13), defBody (top 13), defScope (top 13), [], []⟩
def d_lowered : He.DefD := ⟨("lowered", none), "lowered", "lowered", defArgs (top 14), defBody (top 14), defScope (top 14), [], []⟩
def d_num_made : He.DefD := ⟨("num_made", none), "num_made", "num_made", defArgs (top 15), defBody (top 15), defScope (top 15), [], []⟩
def d_num : He.DefD := ⟨("num", none), "num", "num", defArgs (top 16), defBody (top 16), defScope (top 16), [.int 1], []⟩
def d_do_go_together : He.DefD := ⟨("do_go_together", none), "do_go_together", "do_go_together", defArgs (top 17), defBody (top 17), defScope (top 17), [], []⟩
def d_root_under : He.DefD := ⟨("root_under", none), "root_under", "root_under", defArgs (top 18), defBody (top 18), defScope (top 18), [], []⟩
def d_num_times : He.DefD := ⟨("num_times", none), "num_times", "num_times", defArgs (top 19), defBody (top 19), defScope (top 19), [], []⟩
def d_num_root : He.DefD := ⟨("num_root", none), "num_root", "num_root", defArgs (top 20), defBody (top 20), defScope (top 20), [], []⟩
def d_is_number : He.DefD := ⟨("is_number", none), "is_number", "is_number", defArgs (top 22), defBody (top 22), defScope (top 22), [], []⟩
def d_number_of : He.DefD := ⟨("number_of", none), "number_of", "number_of", defArgs (top 23), defBody (top 23), defScope (top 23), [], []⟩
def d_need_two : He.DefD := ⟨("need_two", none), "need_two", "need_two", defArgs (top 24), defBody (top 24), defScope (top 24), [], []⟩
def d_need_together : He.DefD := ⟨("need_together", none), "need_together", "need_together", defArgs (top 25), defBody (top 25), defScope (top 25), [], []⟩
def d_times : He.DefD := ⟨("times", none), "times", "times", defArgs (top 26), defBody (top 26), defScope (top 26), [], []⟩
def d_root_of : He.DefD := ⟨("root_of", none), "root_of", "root_of", defArgs (top 27), defBody (top 27), defScope (top 27), [], []⟩
def d__law_deck : He.DefD := ⟨("_law_deck", none), "_law_deck", "_law_deck", defArgs (top 29), defBody (top 29), defScope (top 29), [], []⟩
def d__law_draw : He.DefD := ⟨("_law_draw", none), "_law_draw", "_law_draw", defArgs (top 30), defBody (top 30), defScope (top 30), [], []⟩
def d__law_great : He.DefD := ⟨("_law_great", none), "_law_great", "_law_great", defArgs (top 31), defBody (top 31), defScope (top 31), [], []⟩
def d__law_pick : He.DefD := ⟨("_law_pick", none), "_law_pick", "_law_pick", defArgs (top 32), defBody (top 32), defScope (top 32), [], []⟩
def d__law_near : He.DefD := ⟨("_law_near", none), "_law_near", "_law_near", defArgs (top 33), defBody (top 33), defScope (top 33), [], []⟩
def d__law_common : He.DefD := ⟨("_law_common", none), "_law_common", "_law_common", defArgs (top 34), defBody (top 34), defScope (top 34), [], []⟩
def d__law_is_integer : He.DefD := ⟨("_law_is_integer", none), "_law_is_integer", "_law_is_integer", defArgs (top 35), defBody (top 35), defScope (top 35), [], []⟩
def d__law_is_lean : He.DefD := ⟨("_law_is_lean", none), "_law_is_lean", "_law_is_lean", defArgs (top 36), defBody (top 36), defScope (top 36), [], []⟩
def d__law_any : He.DefD := ⟨("_law_any", none), "_law_any", "_law_any", defArgs (top 37), defBody (top 37), defScope (top 37), [], []⟩
def d__law_instead : He.DefD := ⟨("_law_instead", none), "_law_instead", "_law_instead", defArgs (top 38), defBody (top 38), defScope (top 38), [], []⟩
def d__law_bent : He.DefD := ⟨("_law_bent", none), "_law_bent", "_law_bent", defArgs (top 39), defBody (top 39), defScope (top 39), [], []⟩
def d__law_parted : He.DefD := ⟨("_law_parted", none), "_law_parted", "_law_parted", defArgs (top 40), defBody (top 40), defScope (top 40), [], []⟩
def d__law_made : He.DefD := ⟨("_law_made", none), "_law_made", "_law_made", defArgs (top 41), defBody (top 41), defScope (top 41), [], []⟩
def d__law_fraction : He.DefD := ⟨("_law_fraction", none), "_law_fraction", "_law_fraction", defArgs (top 42), defBody (top 42), defScope (top 42), [], []⟩
def d__law_is_number : He.DefD := ⟨("_law_is_number", none), "_law_is_number", "_law_is_number", defArgs (top 43), defBody (top 43), defScope (top 43), [], []⟩
def d__law_asked : He.DefD := ⟨("_law_asked", none), "_law_asked", "_law_asked", defArgs (top 44), defBody (top 44), defScope (top 44), [], []⟩
def d__law_due : He.DefD := ⟨("_law_due", none), "_law_due", "_law_due", defArgs (top 45), defBody (top 45), defScope (top 45), [], []⟩
def d__law_wide : He.DefD := ⟨("_law_wide", none), "_law_wide", "_law_wide", defArgs (top 46), defBody (top 46), defScope (top 46), [], []⟩
def d__law_are_squares_right : He.DefD := ⟨("_law_are_squares_right", none), "_law_are_squares_right", "_law_are_squares_right", defArgs (top 47), defBody (top 47), defScope (top 47), [], []⟩
def d__law_for_root : He.DefD := ⟨("_law_for_root", none), "_law_for_root", "_law_for_root", defArgs (top 48), defBody (top 48), defScope (top 48), [], []⟩
def d_law : He.DefD := ⟨("law", none), "law", "law", defArgs (top 49), defBody (top 49), defScope (top 49), [], []⟩
def di_BadNumber : He.DefD := ⟨("BadNumber", some "__init__"), "__init__", "BadNumber.__init__", defArgs (metOf (top 3)), defBody (metOf (top 3)), defScope (metOf (top 3)), [], []⟩
def di_OtherRoot : He.DefD := ⟨("OtherRoot", some "__init__"), "__init__", "OtherRoot.__init__", defArgs (metOf (top 4)), defBody (metOf (top 4)), defScope (metOf (top 4)), [], []⟩
def fnL : List He.DefD := [d_is_whole, d_square_root, d_square_parts, d_is_squarefree, d_is_number_value, d_need_number, d_lowered, d_num_made, d_num, d_do_go_together, d_root_under, d_num_times, d_num_root, d_is_number, d_number_of, d_need_two, d_need_together, d_times, d_root_of, d__law_deck, d__law_draw, d__law_great, d__law_pick, d__law_near, d__law_common, d__law_is_integer, d__law_is_lean, d__law_any, d__law_instead, d__law_bent, d__law_parted, d__law_made, d__law_fraction, d__law_is_number, d__law_asked, d__law_due, d__law_wide, d__law_are_squares_right, d__law_for_root, d_law, di_BadNumber, di_OtherRoot]
def faL : List He.Fa := [.glo "is_whole", .glo "square_root", .glo "square_parts", .glo "is_squarefree", .glo "is_number_value", .glo "need_number", .glo "lowered", .glo "num_made", .glo "num", .glo "do_go_together", .glo "root_under", .glo "num_times", .glo "num_root", .glo "is_number", .glo "number_of", .glo "need_two", .glo "need_together", .glo "times", .glo "root_of", .glo "_law_deck", .glo "_law_draw", .glo "_law_great", .glo "_law_pick", .glo "_law_near", .glo "_law_common", .glo "_law_is_integer", .glo "_law_is_lean", .glo "_law_any", .glo "_law_instead", .glo "_law_bent", .glo "_law_parted", .glo "_law_made", .glo "_law_fraction", .glo "_law_is_number", .glo "_law_asked", .glo "_law_due", .glo "_law_wide", .glo "_law_are_squares_right", .glo "_law_for_root", .glo "law", .free "abs", .free "all", .free "bool", .free "int", .free "isinstance", .free "len", .free "list", .free "max", .free "range", .free "repr", .free "str", .free "tuple", .glo "NIL", .glo "BadNumber", .glo "OtherRoot", .glo "StepError", .meth "BadNumber" "__init__", .meth "OtherRoot" "__init__"]
def exL (K : PySem.W.Frag) : Bool := (errL.all (fun n => errB K (He.ga K n)) && (exmB K errL clsL && (bltB K "gcd" "math.gcd" && (conB K "MOST_SQUAREFREE" (.int 1000000000000) && He.tupB K "NIL" ([.int 0, .int 0, .int 1, .int 1])))))
abbrev R : PySem.W.OpenRow := PySem.W.OpenLaw.row PySem.Challenge.rw_twicestep_k01_numbers_of_any_values
abbrev hk : PySem.W.Hook := hookC 4 faL fnL exL
def ob (s : PySem.W.SharedT) : AlC := obsC 4 faL fnL exL (HandSHeadRun.getT s)
theorem ob_eq (s : PySem.W.SharedT) : ob s = hk.obs s.abs := obsC_eq (HandSHeadRun.getT_eq s)
def names0 : List PySem.Str := ["__name__", "StepError", "BadNumber", "OtherRoot", "NIL", "MOST_SQUAREFREE", "is_whole", "square_root", "square_parts", "is_squarefree", "is_number_value", "need_number"]
def names1 : List PySem.Str := ["lowered", "num_made", "num", "do_go_together", "root_under", "num_times", "num_root", "is_number", "number_of", "need_two", "need_together", "times"]
def names2 : List PySem.Str := ["root_of", "_law_deck", "_law_draw", "_law_great", "_law_pick", "_law_near", "_law_common", "_law_is_integer", "_law_is_lean", "_law_any", "_law_instead", "_law_bent"]
def names3 : List PySem.Str := ["_law_parted", "_law_made", "_law_fraction", "_law_is_number", "_law_asked", "_law_due", "_law_wide", "_law_are_squares_right", "_law_for_root"]
def names : List PySem.Str := names0 ++ names1 ++ names2 ++ names3
theorem run (w : World) : HandSHeadRun.RunEqI R (PySem.W.view R.prog [0, 49]) hk ob 12000 names w := by
  unfold HandSHeadRun.RunEqI
  kernel_rfl
theorem facts {P : Program} {w : World} {K : PySem.W.Frag} {h : Heap} {mg : Str → Option Value} {f : Addr} (X : K.In h) (G : h.Ns mainGlobals mg) (hfa : mg ("law" : Str) = some (.ref f)) (c : He.SaysD faL fnL K) (ce : exL K = true) :
    ∃ fd : FuncData, (∀ (s : Shared) (v : Value), BindsTo s fd ⟨[v], []⟩ [("script", v)]) ∧ ∀ base : Heap, K.In base → base.Ns mainGlobals mg → FnG P w K mg base CX0 8 f fd p_law (spLaw K) := by
  obtain ⟨fd_is_whole, F_is_whole⟩ := c.def_ 0 (d := d_is_whole) rfl
  have F_is_whole : FnP K "is_whole" (top 8) [] (He.ga K "is_whole") fd_is_whole := F_is_whole
  have m_is_whole : mg "is_whole" = some (.ref (He.ga K "is_whole")) := He.glo_ok X G (c.fact 0 (f := .glo "is_whole") rfl)
  obtain ⟨fd_square_root, F_square_root⟩ := c.def_ 1 (d := d_square_root) rfl
  have F_square_root : FnP K "square_root" (top 9) [] (He.ga K "square_root") fd_square_root := F_square_root
  have m_square_root : mg "square_root" = some (.ref (He.ga K "square_root")) := He.glo_ok X G (c.fact 1 (f := .glo "square_root") rfl)
  obtain ⟨fd_square_parts, F_square_parts⟩ := c.def_ 2 (d := d_square_parts) rfl
  have F_square_parts : FnP K "square_parts" (top 10) [] (He.ga K "square_parts") fd_square_parts := F_square_parts
  have m_square_parts : mg "square_parts" = some (.ref (He.ga K "square_parts")) := He.glo_ok X G (c.fact 2 (f := .glo "square_parts") rfl)
  obtain ⟨fd_is_squarefree, F_is_squarefree⟩ := c.def_ 3 (d := d_is_squarefree) rfl
  have F_is_squarefree : FnP K "is_squarefree" (top 11) [] (He.ga K "is_squarefree") fd_is_squarefree := F_is_squarefree
  have m_is_squarefree : mg "is_squarefree" = some (.ref (He.ga K "is_squarefree")) := He.glo_ok X G (c.fact 3 (f := .glo "is_squarefree") rfl)
  obtain ⟨fd_is_number_value, F_is_number_value⟩ := c.def_ 4 (d := d_is_number_value) rfl
  have F_is_number_value : FnP K "is_number_value" (top 12) [] (He.ga K "is_number_value") fd_is_number_value := F_is_number_value
  have m_is_number_value : mg "is_number_value" = some (.ref (He.ga K "is_number_value")) := He.glo_ok X G (c.fact 4 (f := .glo "is_number_value") rfl)
  obtain ⟨fd_need_number, F_need_number⟩ := c.def_ 5 (d := d_need_number) rfl
  have F_need_number : FnP K "need_number" (top 13) [] (He.ga K "need_number") fd_need_number := F_need_number
  have m_need_number : mg "need_number" = some (.ref (He.ga K "need_number")) := He.glo_ok X G (c.fact 5 (f := .glo "need_number") rfl)
  obtain ⟨fd_lowered, F_lowered⟩ := c.def_ 6 (d := d_lowered) rfl
  have F_lowered : FnP K "lowered" (top 14) [] (He.ga K "lowered") fd_lowered := F_lowered
  have m_lowered : mg "lowered" = some (.ref (He.ga K "lowered")) := He.glo_ok X G (c.fact 6 (f := .glo "lowered") rfl)
  obtain ⟨fd_num_made, F_num_made⟩ := c.def_ 7 (d := d_num_made) rfl
  have F_num_made : FnP K "num_made" (top 15) [] (He.ga K "num_made") fd_num_made := F_num_made
  have m_num_made : mg "num_made" = some (.ref (He.ga K "num_made")) := He.glo_ok X G (c.fact 7 (f := .glo "num_made") rfl)
  obtain ⟨fd_num, F_num⟩ := c.def_ 8 (d := d_num) rfl
  have F_num : FnP K "num" (top 16) [.int 1] (He.ga K "num") fd_num := F_num
  have m_num : mg "num" = some (.ref (He.ga K "num")) := He.glo_ok X G (c.fact 8 (f := .glo "num") rfl)
  obtain ⟨fd_do_go_together, F_do_go_together⟩ := c.def_ 9 (d := d_do_go_together) rfl
  have F_do_go_together : FnP K "do_go_together" (top 17) [] (He.ga K "do_go_together") fd_do_go_together := F_do_go_together
  have m_do_go_together : mg "do_go_together" = some (.ref (He.ga K "do_go_together")) := He.glo_ok X G (c.fact 9 (f := .glo "do_go_together") rfl)
  obtain ⟨fd_root_under, F_root_under⟩ := c.def_ 10 (d := d_root_under) rfl
  have F_root_under : FnP K "root_under" (top 18) [] (He.ga K "root_under") fd_root_under := F_root_under
  have m_root_under : mg "root_under" = some (.ref (He.ga K "root_under")) := He.glo_ok X G (c.fact 10 (f := .glo "root_under") rfl)
  obtain ⟨fd_num_times, F_num_times⟩ := c.def_ 11 (d := d_num_times) rfl
  have F_num_times : FnP K "num_times" (top 19) [] (He.ga K "num_times") fd_num_times := F_num_times
  have m_num_times : mg "num_times" = some (.ref (He.ga K "num_times")) := He.glo_ok X G (c.fact 11 (f := .glo "num_times") rfl)
  obtain ⟨fd_num_root, F_num_root⟩ := c.def_ 12 (d := d_num_root) rfl
  have F_num_root : FnP K "num_root" (top 20) [] (He.ga K "num_root") fd_num_root := F_num_root
  have m_num_root : mg "num_root" = some (.ref (He.ga K "num_root")) := He.glo_ok X G (c.fact 12 (f := .glo "num_root") rfl)
  obtain ⟨fd_is_number, F_is_number⟩ := c.def_ 13 (d := d_is_number) rfl
  have F_is_number : FnP K "is_number" (top 22) [] (He.ga K "is_number") fd_is_number := F_is_number
  have m_is_number : mg "is_number" = some (.ref (He.ga K "is_number")) := He.glo_ok X G (c.fact 13 (f := .glo "is_number") rfl)
  obtain ⟨fd_number_of, F_number_of⟩ := c.def_ 14 (d := d_number_of) rfl
  have F_number_of : FnP K "number_of" (top 23) [] (He.ga K "number_of") fd_number_of := F_number_of
  have m_number_of : mg "number_of" = some (.ref (He.ga K "number_of")) := He.glo_ok X G (c.fact 14 (f := .glo "number_of") rfl)
  obtain ⟨fd_need_two, F_need_two⟩ := c.def_ 15 (d := d_need_two) rfl
  have F_need_two : FnP K "need_two" (top 24) [] (He.ga K "need_two") fd_need_two := F_need_two
  have m_need_two : mg "need_two" = some (.ref (He.ga K "need_two")) := He.glo_ok X G (c.fact 15 (f := .glo "need_two") rfl)
  obtain ⟨fd_need_together, F_need_together⟩ := c.def_ 16 (d := d_need_together) rfl
  have F_need_together : FnP K "need_together" (top 25) [] (He.ga K "need_together") fd_need_together := F_need_together
  have m_need_together : mg "need_together" = some (.ref (He.ga K "need_together")) := He.glo_ok X G (c.fact 16 (f := .glo "need_together") rfl)
  obtain ⟨fd_times, F_times⟩ := c.def_ 17 (d := d_times) rfl
  have F_times : FnP K "times" (top 26) [] (He.ga K "times") fd_times := F_times
  have m_times : mg "times" = some (.ref (He.ga K "times")) := He.glo_ok X G (c.fact 17 (f := .glo "times") rfl)
  obtain ⟨fd_root_of, F_root_of⟩ := c.def_ 18 (d := d_root_of) rfl
  have F_root_of : FnP K "root_of" (top 27) [] (He.ga K "root_of") fd_root_of := F_root_of
  have m_root_of : mg "root_of" = some (.ref (He.ga K "root_of")) := He.glo_ok X G (c.fact 18 (f := .glo "root_of") rfl)
  obtain ⟨fd__law_deck, F__law_deck⟩ := c.def_ 19 (d := d__law_deck) rfl
  have F__law_deck : FnP K "_law_deck" (top 29) [] (He.ga K "_law_deck") fd__law_deck := F__law_deck
  have m__law_deck : mg "_law_deck" = some (.ref (He.ga K "_law_deck")) := He.glo_ok X G (c.fact 19 (f := .glo "_law_deck") rfl)
  obtain ⟨fd__law_draw, F__law_draw⟩ := c.def_ 20 (d := d__law_draw) rfl
  have F__law_draw : FnP K "_law_draw" (top 30) [] (He.ga K "_law_draw") fd__law_draw := F__law_draw
  have m__law_draw : mg "_law_draw" = some (.ref (He.ga K "_law_draw")) := He.glo_ok X G (c.fact 20 (f := .glo "_law_draw") rfl)
  obtain ⟨fd__law_great, F__law_great⟩ := c.def_ 21 (d := d__law_great) rfl
  have F__law_great : FnP K "_law_great" (top 31) [] (He.ga K "_law_great") fd__law_great := F__law_great
  have m__law_great : mg "_law_great" = some (.ref (He.ga K "_law_great")) := He.glo_ok X G (c.fact 21 (f := .glo "_law_great") rfl)
  obtain ⟨fd__law_pick, F__law_pick⟩ := c.def_ 22 (d := d__law_pick) rfl
  have F__law_pick : FnP K "_law_pick" (top 32) [] (He.ga K "_law_pick") fd__law_pick := F__law_pick
  have m__law_pick : mg "_law_pick" = some (.ref (He.ga K "_law_pick")) := He.glo_ok X G (c.fact 22 (f := .glo "_law_pick") rfl)
  obtain ⟨fd__law_near, F__law_near⟩ := c.def_ 23 (d := d__law_near) rfl
  have F__law_near : FnP K "_law_near" (top 33) [] (He.ga K "_law_near") fd__law_near := F__law_near
  have m__law_near : mg "_law_near" = some (.ref (He.ga K "_law_near")) := He.glo_ok X G (c.fact 23 (f := .glo "_law_near") rfl)
  obtain ⟨fd__law_common, F__law_common⟩ := c.def_ 24 (d := d__law_common) rfl
  have F__law_common : FnP K "_law_common" (top 34) [] (He.ga K "_law_common") fd__law_common := F__law_common
  have m__law_common : mg "_law_common" = some (.ref (He.ga K "_law_common")) := He.glo_ok X G (c.fact 24 (f := .glo "_law_common") rfl)
  obtain ⟨fd__law_is_integer, F__law_is_integer⟩ := c.def_ 25 (d := d__law_is_integer) rfl
  have F__law_is_integer : FnP K "_law_is_integer" (top 35) [] (He.ga K "_law_is_integer") fd__law_is_integer := F__law_is_integer
  have m__law_is_integer : mg "_law_is_integer" = some (.ref (He.ga K "_law_is_integer")) := He.glo_ok X G (c.fact 25 (f := .glo "_law_is_integer") rfl)
  obtain ⟨fd__law_is_lean, F__law_is_lean⟩ := c.def_ 26 (d := d__law_is_lean) rfl
  have F__law_is_lean : FnP K "_law_is_lean" (top 36) [] (He.ga K "_law_is_lean") fd__law_is_lean := F__law_is_lean
  have m__law_is_lean : mg "_law_is_lean" = some (.ref (He.ga K "_law_is_lean")) := He.glo_ok X G (c.fact 26 (f := .glo "_law_is_lean") rfl)
  obtain ⟨fd__law_any, F__law_any⟩ := c.def_ 27 (d := d__law_any) rfl
  have F__law_any : FnP K "_law_any" (top 37) [] (He.ga K "_law_any") fd__law_any := F__law_any
  have m__law_any : mg "_law_any" = some (.ref (He.ga K "_law_any")) := He.glo_ok X G (c.fact 27 (f := .glo "_law_any") rfl)
  obtain ⟨fd__law_instead, F__law_instead⟩ := c.def_ 28 (d := d__law_instead) rfl
  have F__law_instead : FnP K "_law_instead" (top 38) [] (He.ga K "_law_instead") fd__law_instead := F__law_instead
  have m__law_instead : mg "_law_instead" = some (.ref (He.ga K "_law_instead")) := He.glo_ok X G (c.fact 28 (f := .glo "_law_instead") rfl)
  obtain ⟨fd__law_bent, F__law_bent⟩ := c.def_ 29 (d := d__law_bent) rfl
  have F__law_bent : FnP K "_law_bent" (top 39) [] (He.ga K "_law_bent") fd__law_bent := F__law_bent
  have m__law_bent : mg "_law_bent" = some (.ref (He.ga K "_law_bent")) := He.glo_ok X G (c.fact 29 (f := .glo "_law_bent") rfl)
  obtain ⟨fd__law_parted, F__law_parted⟩ := c.def_ 30 (d := d__law_parted) rfl
  have F__law_parted : FnP K "_law_parted" (top 40) [] (He.ga K "_law_parted") fd__law_parted := F__law_parted
  have m__law_parted : mg "_law_parted" = some (.ref (He.ga K "_law_parted")) := He.glo_ok X G (c.fact 30 (f := .glo "_law_parted") rfl)
  obtain ⟨fd__law_made, F__law_made⟩ := c.def_ 31 (d := d__law_made) rfl
  have F__law_made : FnP K "_law_made" (top 41) [] (He.ga K "_law_made") fd__law_made := F__law_made
  have m__law_made : mg "_law_made" = some (.ref (He.ga K "_law_made")) := He.glo_ok X G (c.fact 31 (f := .glo "_law_made") rfl)
  obtain ⟨fd__law_fraction, F__law_fraction⟩ := c.def_ 32 (d := d__law_fraction) rfl
  have F__law_fraction : FnP K "_law_fraction" (top 42) [] (He.ga K "_law_fraction") fd__law_fraction := F__law_fraction
  have m__law_fraction : mg "_law_fraction" = some (.ref (He.ga K "_law_fraction")) := He.glo_ok X G (c.fact 32 (f := .glo "_law_fraction") rfl)
  obtain ⟨fd__law_is_number, F__law_is_number⟩ := c.def_ 33 (d := d__law_is_number) rfl
  have F__law_is_number : FnP K "_law_is_number" (top 43) [] (He.ga K "_law_is_number") fd__law_is_number := F__law_is_number
  have m__law_is_number : mg "_law_is_number" = some (.ref (He.ga K "_law_is_number")) := He.glo_ok X G (c.fact 33 (f := .glo "_law_is_number") rfl)
  obtain ⟨fd__law_asked, F__law_asked⟩ := c.def_ 34 (d := d__law_asked) rfl
  have F__law_asked : FnP K "_law_asked" (top 44) [] (He.ga K "_law_asked") fd__law_asked := F__law_asked
  have m__law_asked : mg "_law_asked" = some (.ref (He.ga K "_law_asked")) := He.glo_ok X G (c.fact 34 (f := .glo "_law_asked") rfl)
  obtain ⟨fd__law_due, F__law_due⟩ := c.def_ 35 (d := d__law_due) rfl
  have F__law_due : FnP K "_law_due" (top 45) [] (He.ga K "_law_due") fd__law_due := F__law_due
  have m__law_due : mg "_law_due" = some (.ref (He.ga K "_law_due")) := He.glo_ok X G (c.fact 35 (f := .glo "_law_due") rfl)
  obtain ⟨fd__law_wide, F__law_wide⟩ := c.def_ 36 (d := d__law_wide) rfl
  have F__law_wide : FnP K "_law_wide" (top 46) [] (He.ga K "_law_wide") fd__law_wide := F__law_wide
  have m__law_wide : mg "_law_wide" = some (.ref (He.ga K "_law_wide")) := He.glo_ok X G (c.fact 36 (f := .glo "_law_wide") rfl)
  obtain ⟨fd__law_are_squares_right, F__law_are_squares_right⟩ := c.def_ 37 (d := d__law_are_squares_right) rfl
  have F__law_are_squares_right : FnP K "_law_are_squares_right" (top 47) [] (He.ga K "_law_are_squares_right") fd__law_are_squares_right := F__law_are_squares_right
  have m__law_are_squares_right : mg "_law_are_squares_right" = some (.ref (He.ga K "_law_are_squares_right")) := He.glo_ok X G (c.fact 37 (f := .glo "_law_are_squares_right") rfl)
  obtain ⟨fd__law_for_root, F__law_for_root⟩ := c.def_ 38 (d := d__law_for_root) rfl
  have F__law_for_root : FnP K "_law_for_root" (top 48) [] (He.ga K "_law_for_root") fd__law_for_root := F__law_for_root
  have m__law_for_root : mg "_law_for_root" = some (.ref (He.ga K "_law_for_root")) := He.glo_ok X G (c.fact 38 (f := .glo "_law_for_root") rfl)
  obtain ⟨fd_law, F_law⟩ := c.def_ 39 (d := d_law) rfl
  have F_law : FnP K "law" (top 49) [] (He.ga K "law") fd_law := F_law
  have m_law : mg "law" = some (.ref (He.ga K "law")) := He.glo_ok X G (c.fact 39 (f := .glo "law") rfl)
  have n_abs : mg "abs" = none := He.free_ok X G (c.fact 40 (f := .free "abs") rfl)
  have n_all : mg "all" = none := He.free_ok X G (c.fact 41 (f := .free "all") rfl)
  have n_bool : mg "bool" = none := He.free_ok X G (c.fact 42 (f := .free "bool") rfl)
  have n_int : mg "int" = none := He.free_ok X G (c.fact 43 (f := .free "int") rfl)
  have n_isinstance : mg "isinstance" = none := He.free_ok X G (c.fact 44 (f := .free "isinstance") rfl)
  have n_len : mg "len" = none := He.free_ok X G (c.fact 45 (f := .free "len") rfl)
  have n_list : mg "list" = none := He.free_ok X G (c.fact 46 (f := .free "list") rfl)
  have n_max : mg "max" = none := He.free_ok X G (c.fact 47 (f := .free "max") rfl)
  have n_range : mg "range" = none := He.free_ok X G (c.fact 48 (f := .free "range") rfl)
  have n_repr : mg "repr" = none := He.free_ok X G (c.fact 49 (f := .free "repr") rfl)
  have n_str : mg "str" = none := He.free_ok X G (c.fact 50 (f := .free "str") rfl)
  have n_tuple : mg "tuple" = none := He.free_ok X G (c.fact 51 (f := .free "tuple") rfl)
  have ce0 : (errL.all (fun n => errB K (He.ga K n)) && (exmB K errL clsL && (bltB K "gcd" "math.gcd" && (conB K "MOST_SQUAREFREE" (.int 1000000000000) && He.tupB K "NIL" ([.int 0, .int 0, .int 1, .int 1]))))) = true := ce
  have gg_BadNumber : mg "BadNumber" = some (.ref (He.ga K "BadNumber")) := He.glo_ok X G (c.fact 53 (f := .glo "BadNumber") rfl)
  have gg_OtherRoot : mg "OtherRoot" = some (.ref (He.ga K "OtherRoot")) := He.glo_ok X G (c.fact 54 (f := .glo "OtherRoot") rfl)
  have gg_StepError : mg "StepError" = some (.ref (He.ga K "StepError")) := He.glo_ok X G (c.fact 55 (f := .glo "StepError") rfl)
  have me_BadNumber := meth_at (x := "BadNumber") (m := "__init__") (c.fact 56 (f := .meth "BadNumber" "__init__") rfl)
  have me_OtherRoot := meth_at (x := "OtherRoot") (m := "__init__") (c.fact 57 (f := .meth "OtherRoot" "__init__") rfl)
  obtain ⟨e_errs, ce1⟩ := bltM ce0
  obtain ⟨e_exm, ce2⟩ := bltM ce1
  obtain ⟨e_gcd, ce3⟩ := bltM ce2
  obtain ⟨e_MOST_SQUAREFREE, ce4⟩ := bltM ce3
  have e_NIL := ce4
  have eb : ∀ n ∈ errL, errB K (He.ga K n) = true := fun n hn => List.all_eq_true.mp e_errs n hn
  have T : Txt K mg := ⟨n_abs, n_all, n_bool, n_int, n_isinstance, n_len, n_list, n_max, n_range, n_repr, n_str, n_tuple, bltB_ok X G e_gcd, conB_ok X G e_MOST_SQUAREFREE (fun _ => .int _), conT (He.glo_ok X G (c.fact 52 (f := .glo "NIL") rfl)) e_NIL (fun _ => .cons (.int _) (.cons (.int _) (.cons (.int _) (.cons (.int _) (.nil))))), ((all_1 ⟨gg_BadNumber, (errB_ok (eb "BadNumber" (by decide +kernel))).1, (errB_ok (eb "BadNumber" (by decide +kernel))).2⟩ (all_1 ⟨gg_OtherRoot, (errB_ok (eb "OtherRoot" (by decide +kernel))).1, (errB_ok (eb "OtherRoot" (by decide +kernel))).2⟩ all_0))), fun n hn c hc => exmB_ok e_exm n hn c hc, (all_1 gg_StepError (all_1 gg_BadNumber all_0))⟩
  cases hfa.symm.trans m_law
  have b := FunD.bindsA (ps := p_law) F_law fun _ _ _ _ _ _ us hl => match us, hl with | [_], _ => rfl
  refine ⟨fd_law, fun s v => b s [v] rfl, fun base _ _ => ?_⟩
  obtain ⟨fdi_BadNumber, Fi_BadNumber⟩ := c.def_ 40 (d := di_BadNumber) rfl
  have Fi_BadNumber : FunD K "__init__" "BadNumber.__init__" (defArgs (metOf (top 3))) (defBody (metOf (top 3))) (defScope (metOf (top 3))) [] [] (He.ma K (He.ga K "BadNumber") "__init__") fdi_BadNumber := Fi_BadNumber
  have M_BadNumber : Mkr P w K mg base "BadNumber" := ⟨⟨_, _, ok_init Fi_BadNumber sci_BadNumber (fun _ _ _ _ _ _ => ⟨pv 0, pv 1⟩), me_BadNumber.1, me_BadNumber.2, Fi_BadNumber.bindsN fun _ _ _ _ _ _ us hl => match us, hl with | [_, _], _ => rfl, gg_BadNumber⟩, (T.err "BadNumber" (by decide +kernel)).c⟩
  obtain ⟨fdi_OtherRoot, Fi_OtherRoot⟩ := c.def_ 41 (d := di_OtherRoot) rfl
  have Fi_OtherRoot : FunD K "__init__" "OtherRoot.__init__" (defArgs (metOf (top 4))) (defBody (metOf (top 4))) (defScope (metOf (top 4))) [] [] (He.ma K (He.ga K "OtherRoot") "__init__") fdi_OtherRoot := Fi_OtherRoot
  have M_OtherRoot : Mkr P w K mg base "OtherRoot" := ⟨⟨_, _, ok_init Fi_OtherRoot sci_OtherRoot (fun _ _ _ _ _ _ => ⟨pv 0, pv 1⟩), me_OtherRoot.1, me_OtherRoot.2, Fi_OtherRoot.bindsN fun _ _ _ _ _ _ us hl => match us, hl with | [_, _], _ => rfl, gg_OtherRoot⟩, (T.err "OtherRoot" (by decide +kernel)).c⟩
  have C_is_whole : Cal_is_whole P w K mg base := ⟨⟨_, _, (ok_is_whole F_is_whole T ), m_is_whole, F_is_whole.kp, (all_1 (bs_0 (F_is_whole.bindsN fun _ _ _ _ _ _ us hl => match us, hl with | [_], _ => rfl)) all_0), all_0⟩⟩
  have C_square_root : Cal_square_root P w K mg base := ⟨⟨_, _, (ok_square_root F_square_root T ), m_square_root, F_square_root.kp, (all_1 (bs_0 (F_square_root.bindsN fun _ _ _ _ _ _ us hl => match us, hl with | [_], _ => rfl)) all_0), all_0⟩⟩
  have C_square_parts : Cal_square_parts P w K mg base := ⟨⟨_, _, (ok_square_parts F_square_parts T C_square_root), m_square_parts, F_square_parts.kp, (all_1 (bs_0 (F_square_parts.bindsN fun _ _ _ _ _ _ us hl => match us, hl with | [_], _ => rfl)) all_0), all_0⟩⟩
  have C_is_squarefree : Cal_is_squarefree P w K mg base := ⟨⟨_, _, (ok_is_squarefree F_is_squarefree T C_square_parts), m_is_squarefree, F_is_squarefree.kp, (all_1 (bs_0 (F_is_squarefree.bindsN fun _ _ _ _ _ _ us hl => match us, hl with | [_], _ => rfl)) all_0), all_0⟩⟩
  have C_is_number_value : Cal_is_number_value P w K mg base := ⟨⟨_, _, (ok_is_number_value F_is_number_value T C_is_squarefree C_is_whole), m_is_number_value, F_is_number_value.kp, (all_1 (bs_0 (F_is_number_value.bindsN fun _ _ _ _ _ _ us hl => match us, hl with | [_], _ => rfl)) all_0), all_0⟩⟩
  have C_need_number : Cal_need_number P w K mg base := ⟨⟨_, _, (ok_need_number F_need_number T C_is_number_value M_BadNumber), m_need_number, F_need_number.kp, (all_1 (bs_0 (F_need_number.bindsN fun _ _ _ _ _ _ us hl => match us, hl with | [_], _ => rfl)) all_0), all_0⟩⟩
  have C_lowered : Cal_lowered P w K mg base := ⟨⟨_, _, (ok_lowered F_lowered T ), m_lowered, F_lowered.kp, (all_1 (bs_0 (F_lowered.bindsN fun _ _ _ _ _ _ us hl => match us, hl with | [_, _, _, _], _ => rfl)) all_0), all_0⟩⟩
  have C_num_made : Cal_num_made P w K mg base := ⟨⟨_, _, (ok_num_made F_num_made T C_lowered C_square_parts), m_num_made, F_num_made.kp, (all_1 (bs_0 (F_num_made.bindsN fun _ _ _ _ _ _ us hl => match us, hl with | [_, _, _, _], _ => rfl)) all_0), all_0⟩⟩
  have C_num : Cal_num P w K mg base := ⟨⟨_, _, (ok_num F_num T C_lowered), m_num, F_num.kp, (all_1 (bs_1 (FunD.binds1 (ps := p_num) F_num 2 1 (by simp) rfl fun _ _ _ _ _ _ _ us its h1 h2 => match us, its, h1, h2 with | [_, _], [_], _, _ => ⟨_, rfl, rfl⟩) (fun _ => .nil)) all_0), all_0⟩⟩
  have C_do_go_together : Cal_do_go_together P w K mg base := ⟨⟨_, _, (ok_do_go_together F_do_go_together T ), m_do_go_together, F_do_go_together.kp, (all_1 (bs_0 (F_do_go_together.bindsN fun _ _ _ _ _ _ us hl => match us, hl with | [_, _], _ => rfl)) all_0), all_0⟩⟩
  have C_root_under : Cal_root_under P w K mg base := ⟨⟨_, _, (ok_root_under F_root_under T ), m_root_under, F_root_under.kp, (all_1 (bs_0 (F_root_under.bindsN fun _ _ _ _ _ _ us hl => match us, hl with | [_, _], _ => rfl)) all_0), all_0⟩⟩
  have C_num_times : Cal_num_times P w K mg base := ⟨⟨_, _, (ok_num_times F_num_times T C_lowered C_root_under), m_num_times, F_num_times.kp, (all_1 (bs_0 (F_num_times.bindsN fun _ _ _ _ _ _ us hl => match us, hl with | [_, _], _ => rfl)) all_0), all_0⟩⟩
  have C_num_root : Cal_num_root P w K mg base := ⟨⟨_, _, (ok_num_root F_num_root T C_num_made), m_num_root, F_num_root.kp, (all_1 (bs_0 (F_num_root.bindsN fun _ _ _ _ _ _ us hl => match us, hl with | [_], _ => rfl)) all_0), all_0⟩⟩
  have C_is_number : Cal_is_number P w K mg base := ⟨⟨_, _, (ok_is_number F_is_number T C_is_number_value), m_is_number, F_is_number.kp, (all_1 (bs_0 (F_is_number.bindsN fun _ _ _ _ _ _ us hl => match us, hl with | [_], _ => rfl)) all_0), (all_1 (kb_of (ps := p_is_number) F_is_number fun _ _ _ _ _ _ us ws h1 h2 => match us, ws, h1, h2 with | [], [_], _, _ => rfl) all_0)⟩⟩
  have C_number_of : Cal_number_of P w K mg base := ⟨⟨_, _, (ok_number_of F_number_of T C_is_whole C_num_made M_BadNumber), m_number_of, F_number_of.kp, (all_1 (bs_0 (F_number_of.bindsN fun _ _ _ _ _ _ us hl => match us, hl with | [_, _, _, _], _ => rfl)) all_0), (all_1 (kb_of (ps := p_number_of) F_number_of fun _ _ _ _ _ _ us ws h1 h2 => match us, ws, h1, h2 with | [], [_, _, _, _], _, _ => rfl) all_0)⟩⟩
  have C_need_two : Cal_need_two P w K mg base := ⟨⟨_, _, (ok_need_two F_need_two T C_need_number), m_need_two, F_need_two.kp, (all_1 (bs_0 (F_need_two.bindsN fun _ _ _ _ _ _ us hl => match us, hl with | [_, _], _ => rfl)) all_0), all_0⟩⟩
  have C_need_together : Cal_need_together P w K mg base := ⟨⟨_, _, (ok_need_together F_need_together T C_do_go_together M_OtherRoot), m_need_together, F_need_together.kp, (all_1 (bs_0 (F_need_together.bindsN fun _ _ _ _ _ _ us hl => match us, hl with | [_, _], _ => rfl)) all_0), all_0⟩⟩
  have C_times : Cal_times P w K mg base := ⟨⟨_, _, (ok_times F_times T C_need_together C_need_two C_num_times), m_times, F_times.kp, (all_1 (bs_0 (F_times.bindsN fun _ _ _ _ _ _ us hl => match us, hl with | [_, _], _ => rfl)) all_0), all_0⟩⟩
  have C_root_of : Cal_root_of P w K mg base := ⟨⟨_, _, (ok_root_of F_root_of T C_is_whole C_num C_num_root M_BadNumber), m_root_of, F_root_of.kp, (all_1 (bs_0 (F_root_of.bindsN fun _ _ _ _ _ _ us hl => match us, hl with | [_, _], _ => rfl)) all_0), (all_1 (kb_of (ps := p_root_of) F_root_of fun _ _ _ _ _ _ us ws h1 h2 => match us, ws, h1, h2 with | [], [_, _], _, _ => rfl) all_0)⟩⟩
  have C__law_deck : Cal__law_deck P w K mg base := ⟨⟨_, _, (ok_deck (k := 0) F__law_deck n_int n_list), m__law_deck, F__law_deck.kp, (all_1 (bs_0 (F__law_deck.bindsN fun _ _ _ _ _ _ us hl => match us, hl with | [_, _], _ => rfl)) all_0), all_0⟩⟩
  have C__law_draw : Cal__law_draw P w K mg base := ⟨⟨_, _, (ok_draw (k := 0) F__law_draw n_int n_max), m__law_draw, F__law_draw.kp, (all_1 (bs_0 (F__law_draw.bindsN fun _ _ _ _ _ _ us hl => match us, hl with | [_, _], _ => rfl)) all_0), all_0⟩⟩
  have C__law_great : Cal__law_great P w K mg base := ⟨⟨_, _, (ok__law_great F__law_great T C__law_draw), m__law_great, F__law_great.kp, (all_1 (bs_0 (F__law_great.bindsN fun _ _ _ _ _ _ us hl => match us, hl with | [_, _], _ => rfl)) all_0), all_0⟩⟩
  have C__law_pick : Cal__law_pick P w K mg base := ⟨⟨_, _, (ok__law_pick F__law_pick T C__law_draw), m__law_pick, F__law_pick.kp, (all_1 (bs_0 (F__law_pick.bindsN fun _ _ _ _ _ _ us hl => match us, hl with | [_, _], _ => rfl)) all_0), all_0⟩⟩
  have C__law_near : Cal__law_near P w K mg base := ⟨⟨_, _, (ok__law_near F__law_near T C__law_draw), m__law_near, F__law_near.kp, (all_1 (bs_0 (F__law_near.bindsN fun _ _ _ _ _ _ us hl => match us, hl with | [_, _], _ => rfl)) all_0), all_0⟩⟩
  have C__law_common : Cal__law_common P w K mg base := ⟨⟨_, _, (ok__law_common F__law_common T ), m__law_common, F__law_common.kp, (all_1 (bs_0 (F__law_common.bindsN fun _ _ _ _ _ _ us hl => match us, hl with | [_, _], _ => rfl)) all_0), all_0⟩⟩
  have C__law_is_integer : Cal__law_is_integer P w K mg base := ⟨⟨_, _, (ok__law_is_integer F__law_is_integer T ), m__law_is_integer, F__law_is_integer.kp, (all_1 (bs_0 (F__law_is_integer.bindsN fun _ _ _ _ _ _ us hl => match us, hl with | [_], _ => rfl)) all_0), all_0⟩⟩
  have C__law_is_lean : Cal__law_is_lean P w K mg base := ⟨⟨_, _, (ok__law_is_lean F__law_is_lean T ), m__law_is_lean, F__law_is_lean.kp, (all_1 (bs_0 (F__law_is_lean.bindsN fun _ _ _ _ _ _ us hl => match us, hl with | [_], _ => rfl)) all_0), all_0⟩⟩
  have C__law_any_0 : Cal__law_any_0 P w K mg base := ⟨⟨_, _, none_G, m__law_any, F__law_any.kp, (all_1 (bs_0 (F__law_any.bindsN fun _ _ _ _ _ _ us hl => match us, hl with | [_, _], _ => rfl)) all_0), all_0⟩⟩
  have C__law_any_1 : Cal__law_any_1 P w K mg base := ⟨⟨_, _, (ok__law_any_1 F__law_any T C__law_any_0 C__law_draw C__law_pick), m__law_any, F__law_any.kp, (all_1 (bs_0 (F__law_any.bindsN fun _ _ _ _ _ _ us hl => match us, hl with | [_, _], _ => rfl)) all_0), all_0⟩⟩
  have C__law_any_2 : Cal__law_any_2 P w K mg base := ⟨⟨_, _, (ok__law_any_2 F__law_any T C__law_any_1 C__law_draw C__law_pick), m__law_any, F__law_any.kp, (all_1 (bs_0 (F__law_any.bindsN fun _ _ _ _ _ _ us hl => match us, hl with | [_, _], _ => rfl)) all_0), all_0⟩⟩
  have C__law_any_3 : Cal__law_any_3 P w K mg base := ⟨⟨_, _, (ok__law_any_3 F__law_any T C__law_any_2 C__law_draw C__law_pick), m__law_any, F__law_any.kp, (all_1 (bs_0 (F__law_any.bindsN fun _ _ _ _ _ _ us hl => match us, hl with | [_, _], _ => rfl)) all_0), all_0⟩⟩
  have C__law_any : Cal__law_any P w K mg base := C__law_any_3
  have C__law_instead : Cal__law_instead P w K mg base := ⟨⟨_, _, (ok__law_instead F__law_instead T ), m__law_instead, F__law_instead.kp, (all_1 (bs_0 (F__law_instead.bindsN fun _ _ _ _ _ _ us hl => match us, hl with | [_, _, _], _ => rfl)) all_0), all_0⟩⟩
  have C__law_bent_0 : Cal__law_bent_0 P w K mg base := ⟨⟨_, _, none_G, m__law_bent, F__law_bent.kp, (all_1 (bs_0 (F__law_bent.bindsN fun _ _ _ _ _ _ us hl => match us, hl with | [_, _, _], _ => rfl)) all_0), all_0⟩⟩
  have C__law_bent_1 : Cal__law_bent_1 P w K mg base := ⟨⟨_, _, (ok__law_bent_1 F__law_bent T C__law_bent_0 C__law_any C__law_draw C__law_instead C__law_is_integer C__law_pick), m__law_bent, F__law_bent.kp, (all_1 (bs_0 (F__law_bent.bindsN fun _ _ _ _ _ _ us hl => match us, hl with | [_, _, _], _ => rfl)) all_0), all_0⟩⟩
  have C__law_bent_2 : Cal__law_bent_2 P w K mg base := ⟨⟨_, _, (ok__law_bent_2 F__law_bent T C__law_bent_1 C__law_any C__law_draw C__law_instead C__law_is_integer C__law_pick), m__law_bent, F__law_bent.kp, (all_1 (bs_0 (F__law_bent.bindsN fun _ _ _ _ _ _ us hl => match us, hl with | [_, _, _], _ => rfl)) all_0), all_0⟩⟩
  have C__law_bent : Cal__law_bent P w K mg base := C__law_bent_2
  have C__law_parted : Cal__law_parted P w K mg base := ⟨⟨_, _, (ok__law_parted F__law_parted T ), m__law_parted, F__law_parted.kp, (all_1 (bs_0 (F__law_parted.bindsN fun _ _ _ _ _ _ us hl => match us, hl with | [_], _ => rfl)) all_0), all_0⟩⟩
  have C__law_made : Cal__law_made P w K mg base := ⟨⟨_, _, (ok__law_made F__law_made T C__law_common), m__law_made, F__law_made.kp, (all_1 (bs_0 (F__law_made.bindsN fun _ _ _ _ _ _ us hl => match us, hl with | [_, _, _, _], _ => rfl)) all_0), all_0⟩⟩
  have C__law_fraction : Cal__law_fraction P w K mg base := ⟨⟨_, _, (ok__law_fraction F__law_fraction T C__law_made), m__law_fraction, F__law_fraction.kp, (all_1 (bs_0 (F__law_fraction.bindsN fun _ _ _ _ _ _ us hl => match us, hl with | [_, _], _ => rfl)) all_0), all_0⟩⟩
  have C__law_is_number : Cal__law_is_number P w K mg base := ⟨⟨_, _, (ok__law_is_number F__law_is_number T C__law_common C__law_is_integer C__law_is_lean), m__law_is_number, F__law_is_number.kp, (all_1 (bs_0 (F__law_is_number.bindsN fun _ _ _ _ _ _ us hl => match us, hl with | [_], _ => rfl)) all_0), all_0⟩⟩
  have C__law_asked : Cal__law_asked P w K mg base := ⟨⟨_, _, (ok__law_asked F__law_asked T C_number_of C_root_of), m__law_asked, F__law_asked.kp, (all_1 (bs_0 (F__law_asked.bindsN fun _ _ _ _ _ _ us hl => match us, hl with | [_, _], _ => rfl)) all_0), all_0⟩⟩
  have C__law_due : Cal__law_due P w K mg base := ⟨⟨_, _, (ok__law_due F__law_due T C__law_is_integer C__law_made C__law_parted), m__law_due, F__law_due.kp, (all_1 (bs_0 (F__law_due.bindsN fun _ _ _ _ _ _ us hl => match us, hl with | [_], _ => rfl)) all_0), all_0⟩⟩
  have C__law_wide : Cal__law_wide P w K mg base := ⟨⟨_, _, (ok__law_wide F__law_wide T C__law_draw C__law_great C__law_pick), m__law_wide, F__law_wide.kp, (all_1 (bs_0 (F__law_wide.bindsN fun _ _ _ _ _ _ us hl => match us, hl with | [_], _ => rfl)) all_0), all_0⟩⟩
  have C__law_are_squares_right : Cal__law_are_squares_right P w K mg base := ⟨⟨_, _, (ok__law_are_squares_right F__law_are_squares_right T C__law_draw C__law_made C__law_near C__law_pick C_is_number C_number_of C_root_of), m__law_are_squares_right, F__law_are_squares_right.kp, (all_1 (bs_0 (F__law_are_squares_right.bindsN fun _ _ _ _ _ _ us hl => match us, hl with | [_], _ => rfl)) all_0), all_0⟩⟩
  have C__law_for_root : Cal__law_for_root P w K mg base := ⟨⟨_, _, (ok__law_for_root F__law_for_root T C__law_draw C__law_near C__law_pick), m__law_for_root, F__law_for_root.kp, (all_1 (bs_0 (F__law_for_root.bindsN fun _ _ _ _ _ _ us hl => match us, hl with | [_], _ => rfl)) all_0), all_0⟩⟩
  exact ok_law F_law T C__law_deck C__law_any C__law_are_squares_right C__law_asked C__law_bent C__law_draw C__law_due C__law_for_root C__law_fraction C__law_instead C__law_is_number C__law_pick C__law_wide C_is_number C_times G_law
end K01
open PySem PySem.W PySem.Calls PyProof.Rows
theorem PySem.Challenge.cw_twicestep_k01_numbers_of_any_values_holds : PySem.Challenge.rw_twicestep_k01_numbers_of_any_values.Holds := by
  w_on; o_law
  refine HandSHeadRun.head_imp (r := OpenLaw.row PySem.Challenge.rw_twicestep_k01_numbers_of_any_values) (q := view (OpenLaw.row PySem.Challenge.rw_twicestep_k01_numbers_of_any_values).prog [0, 49]) (H := K01.hk) (ob := K01.ob) (M := 12000) (loose := K01.names) (d := HandSHeadRun.topDef (OpenLaw.row PySem.Challenge.rw_twicestep_k01_numbers_of_any_values).prog 49) (kwd := []) K01.ob_eq
    K01.run (by kernel_rfl) (by kernel_rfl) (by kernel_rfl) (by rfl) (by first | assumption | decide +kernel) (by decide +kernel) ⟨rfl, rfl, rfl, rfl, rfl, by decide +kernel⟩ ?hw ?hc
  case hw => w_witness2
  case hc =>
    refine DL.walk_facts (l := PySem.Challenge.rw_twicestep_k01_numbers_of_any_values) (n := 63) (k := 8) (x := "script") rfl (by decide) (by kernel_rfl) ⟨rfl, by decide, by decide⟩ ?F
    intro w mg fa h Y G hmg0
    obtain ⟨K, KX, c, ce⟩ := Y
    have hmg : mg ("law" : PySem.Str) = some (.ref fa) := by
      have e : (HandSHeadRun.topDef (OpenLaw.row PySem.Challenge.rw_twicestep_k01_numbers_of_any_values).prog 49).name = ("law" : PySem.Str) := by kernel_rfl
      rw [← e]
      exact hmg0
    obtain ⟨fd, hb, hF⟩ := K01.facts (P := (PySem.Challenge.rw_twicestep_k01_numbers_of_any_values).prog) (w := w) KX G hmg c ce
    exact ⟨K, fd, KX, hb, hF⟩
