import PyProof.Rows.All
import Wide.All
import OpenK.AllK
import Wide.FinOn
import HandS.ForMost
import HandS.Wide
import HandS.Gcd
import HandS.Flow
import HandS.IsInst
import HandS.TupAny
import HandS.TupMul
import HandS.Deep
import HandS.Style
import HandS.RaiseMore
import HandS.Defaults
import HandS.EndBits
import KE.KStateDown
import HandS.Head0
import HandS.Head1
import HandS.Head2
import HandS.Head3
import HandS.HeadHook1
import HandS.HeadHook2
import PySem.Challenge.RW_twicestep_k54_verdicts_of_named_rules
set_option Elab.async false
set_option linter.all false
set_option maxRecDepth 100000
set_option maxHeartbeats 4000000
/-! DL1: data without a heap, what stands for it, the frame of a deed, the readings of expressions and statements over data. -/
namespace DL
open PySem L2

/-- data: tuples and lists by value; ref: a thing known by its address alone -/
inductive D where
  | non | bl (b : Bool) | int (i : Int) | str (s : Str) | tup (xs : List D) | lst (xs : List D) | ref (a : Addr)

mutual
inductive Is (K : PySem.W.Frag) (F : Hp) : V → D → Prop
  | non : Is K F .non .non
  | bl (b : Bool) : Is K F (.bl b) (.bl b)
  | int (i : Int) : Is K F (.int i) (.int i)
  | str (x : Str) : Is K F (.str x) (.str x)
  | ref (a : Addr) : Is K F (.ref a) (.ref a)
  | tup {a : Addr} {xs : List V} {ds : List D} : SqT K F a xs → IsAll K F xs ds → Is K F (.ref a) (.tup ds)
  | lst {a : Addr} {xs : List V} {ds : List D} : F a = some (.lst xs) → IsAll K F xs ds → Is K F (.ref a) (.lst ds)
inductive IsAll (K : PySem.W.Frag) (F : Hp) : List V → List D → Prop
  | nil : IsAll K F [] []
  | cons {v : V} {vs : List V} {d : D} {ds : List D} : Is K F v d → IsAll K F vs ds → IsAll K F (v :: vs) (d :: ds)
end

def Ex (H H' : Hp) : Prop := ∀ a o, H a = some o → H' a = some o
theorem Ex.refl (H : Hp) : Ex H H := fun _ _ h => h
theorem Ex.trans {H H1 H2 : Hp} (a : Ex H H1) (b : Ex H1 H2) : Ex H H2 := fun x o h => b x o (a x o h)
theorem Ex.sqL {K : PySem.W.Frag} {H H' : Hp} {a : Addr} {xs : List V} (e : Ex H H') (h : SqL K H a xs) : SqL K H' a xs := by
  rcases h with (h | ⟨o, h⟩) | h
  · exact .inl (.inl (e _ _ h))
  · exact .inl (.inr ⟨o, e _ _ h⟩)
  · exact .inr h
theorem Ex.sqT {K : PySem.W.Frag} {H H' : Hp} {a : Addr} {xs : List V} (e : Ex H H') (h : SqT K H a xs) : SqT K H' a xs := by
  rcases h with (h | ⟨o, h⟩) | h
  · exact .inl (.inl (e _ _ h))
  · exact .inl (.inr ⟨o, e _ _ h⟩)
  · exact .inr h
section
variable {K : PySem.W.Frag} {F F' : Hp}
mutual
theorem Is.mono (e : Ex F F') : ∀ (d : D) (v : V), Is K F v d → Is K F' v d
  | .non, _, h => by cases h; exact .non
  | .bl b, _, h => by cases h; exact .bl b
  | .int i, _, h => by cases h; exact .int i
  | .str x, _, h => by cases h; exact .str x
  | .ref a, _, h => by cases h; exact .ref a
  | .tup ds, _, h => by
    cases h with
    | tup h1 h2 => exact .tup (e.sqT h1) (IsAll.mono e ds _ h2)
  | .lst ds, _, h => by
    cases h with
    | lst h1 h2 => exact .lst (e _ _ h1) (IsAll.mono e ds _ h2)
theorem IsAll.mono (e : Ex F F') : ∀ (ds : List D) (vs : List V), IsAll K F vs ds → IsAll K F' vs ds
  | [], _, h => by cases h; exact .nil
  | d :: ds, _, h => by
    cases h with
    | cons h1 h2 => exact .cons (Is.mono e d _ h1) (IsAll.mono e ds _ h2)
end
theorem Is.up {v : V} {d : D} (h : Is K F v d) (e : Ex F F') : Is K F' v d := Is.mono e d v h
theorem IsAll.up {vs : List V} {ds : List D} (h : IsAll K F vs ds) (e : Ex F F') : IsAll K F' vs ds := IsAll.mono e ds vs h
theorem IsAll.length {vs : List V} {ds : List D} (h : IsAll K F vs ds) : vs.length = ds.length := by
  induction ds generalizing vs with
  | nil => cases h; rfl
  | cons d ds ih => cases h with | cons h1 h2 => rw [List.length_cons, List.length_cons, ih h2]
theorem IsAll.get {vs : List V} {ds : List D} (h : IsAll K F vs ds) : ∀ {i : Nat} {d : D}, ds[i]? = some d → ∃ v, vs[i]? = some v ∧ Is K F v d := by
  induction ds generalizing vs with
  | nil => intro i d e; simp at e
  | cons d ds ih =>
    cases h with
    | cons h1 h2 =>
      intro i d' e
      cases i with
      | zero =>
        rw [List.getElem?_cons_zero] at e
        cases e
        exact ⟨_, rfl, h1⟩
      | succ i =>
        rw [List.getElem?_cons_succ] at e
        obtain ⟨v, e1, e2⟩ := ih h2 e
        exact ⟨v, by rw [List.getElem?_cons_succ]; exact e1, e2⟩
theorem IsAll.getV {vs : List V} {ds : List D} (h : IsAll K F vs ds) {i : Nat} {v : V} (e : vs[i]? = some v) : ∃ d, ds[i]? = some d ∧ Is K F v d := by
  have hl := h.length
  have hi := (List.getElem?_eq_some_iff.mp e).1
  obtain ⟨w, e1, e2⟩ := h.get (List.getElem?_eq_getElem (show i < ds.length by omega))
  rw [e] at e1
  cases e1
  exact ⟨_, List.getElem?_eq_getElem (show i < ds.length by omega), e2⟩
theorem IsAll.append {vs ws : List V} {ds es : List D} (h : IsAll K F vs ds) (h' : IsAll K F ws es) : IsAll K F (vs ++ ws) (ds ++ es) := by
  induction ds generalizing vs with
  | nil => cases h; exact h'
  | cons d ds ih => cases h with | cons h1 h2 => exact .cons h1 (ih h2)
theorem IsAll.drop {vs : List V} {ds : List D} (h : IsAll K F vs ds) : ∀ n : Nat, IsAll K F (vs.drop n) (ds.drop n) := by
  induction ds generalizing vs with
  | nil => cases h; intro n; simp; exact .nil
  | cons d ds ih =>
    cases h with
    | cons h1 h2 =>
      intro n
      cases n with
      | zero => exact .cons h1 h2
      | succ n => exact ih h2 n
theorem IsAll.take {vs : List V} {ds : List D} (h : IsAll K F vs ds) : ∀ n : Nat, IsAll K F (vs.take n) (ds.take n) := by
  induction ds generalizing vs with
  | nil => cases h; intro n; simp; exact .nil
  | cons d ds ih =>
    cases h with
    | cons h1 h2 =>
      intro n
      cases n with
      | zero => exact .nil
      | succ n => exact .cons h1 (ih h2 n)
theorem IsAll.set {vs : List V} {ds : List D} (h : IsAll K F vs ds) {v : V} {d : D} (hd : Is K F v d) : ∀ i : Nat, IsAll K F (vs.set i v) (ds.set i d) := by
  induction ds generalizing vs with
  | nil => cases h; intro i; exact .nil
  | cons d ds ih =>
    cases h with
    | cons h1 h2 =>
      intro i
      cases i with
      | zero => exact .cons hd h2
      | succ i => exact .cons h1 (ih h2 i)
theorem IsAll.reverse {vs : List V} {ds : List D} (h : IsAll K F vs ds) : IsAll K F vs.reverse ds.reverse := by
  induction ds generalizing vs with
  | nil => cases h; exact .nil
  | cons d ds ih =>
    cases h with
    | cons h1 h2 =>
      rw [List.reverse_cons, List.reverse_cons]
      exact (ih h2).append (.cons h1 .nil)
theorem IsAll.replicate {v : V} {d : D} (h : Is K F v d) : ∀ n : Nat, IsAll K F (List.replicate n v) (List.replicate n d)
  | 0 => .nil
  | n + 1 => .cons h (IsAll.replicate h n)
theorem IsAll.ints : ∀ ns : List Int, IsAll K F (ns.map V.int) (ns.map D.int)
  | [] => .nil
  | n :: ns => .cons (.int n) (IsAll.ints ns)
end

/-! ### the frame of a deed -/
/-- the deck, if one stands: the name of its list, its dict's address, its list's -/
abbrev Gd := Option (Str × Addr × Addr)
def Gd.M : Gd → Addr → Prop
  | none, _ => False
  | some (_, d, l), a => a = d ∨ a = l
def DeckAt (nm : Str) (d l : Addr) (H : Hp) : Prop :=
  ∃ (cs : List Int) (mixed draws : Int), H d = some (.dK [(.inr nm, .ref l), (.inr "mixed", .int mixed), (.inr "draws", .int draws)]) ∧ H l = some (.lst (cs.map V.int)) ∧ cs.length ≤ 63 ∧ (-(2 ^ 40) < mixed ∧ mixed < 2 ^ 40) ∧ d ≠ l
def Gd.J : Gd → Hp → Prop
  | none, _ => True
  | some (nm, d, l), H => DeckAt nm d l H
theorem Gd.J.loc {g : Gd} {H H' : Hp} (h : ∀ a, g.M a → H' a = H a) (j : g.J H) : g.J H' := by
  cases g with
  | none => trivial
  | some t =>
    obtain ⟨nm, d, l⟩ := t
    obtain ⟨cs, mi, dr, h1, h2, h3, h4, h5⟩ := j
    exact ⟨cs, mi, dr, (h d (.inl rfl)).trans h1, (h l (.inr rfl)).trans h2, h3, h4, h5⟩
theorem Gd.J.has {g : Gd} {H : Hp} (j : g.J H) {a : Addr} (m : g.M a) : H a ≠ none := by
  cases g with
  | none => exact m.elim
  | some t =>
    obtain ⟨nm, d, l⟩ := t
    obtain ⟨cs, mi, dr, h1, h2, h3, h4⟩ := j
    rcases m with rfl | rfl
    · rw [h1]; exact fun z => by cases z
    · rw [h2]; exact fun z => by cases z

/-- from (H0, F0) to (H, F): H the heap, F the part of it that nobody writes any more -/
structure Fr (g : Gd) (H0 F0 H F : Hp) : Prop where
  pre : ∀ a o, ¬ g.M a → H0 a = some o → H a = some o
  j : g.J H
  sub : Ex F H
  f0 : Ex F0 F
  old : ∀ a, H0 a ≠ none → F a = F0 a
  nm : ∀ a, g.M a → F a = none ∧ H0 a ≠ none
section
variable {g : Gd} {H0 F0 H F H1 F1 : Hp}
theorem Fr.there (r : Fr g H0 F0 H F) {a : Addr} (h : H0 a ≠ none) : H a ≠ none := by
  by_cases hm : g.M a
  · exact r.j.has hm
  · cases e : H0 a with
    | none => exact absurd e h
    | some o => rw [r.pre a o hm e]; exact fun z => by cases z
theorem Fr.back (r : Fr g H0 F0 H F) {a : Addr} (h : H a = none) : H0 a = none := by
  cases e : H0 a with
  | none => rfl
  | some o => exact absurd h (r.there (by rw [e]; exact fun z => by cases z))
theorem Fr.self (r : Fr g H0 F0 H F) : Fr g H F H F :=
  ⟨fun _ _ _ h => h, r.j, r.sub, Ex.refl _, fun _ _ => rfl, fun a m => ⟨(r.nm a m).1, r.j.has m⟩⟩
theorem Fr.trans (r : Fr g H0 F0 H F) (q : Fr g H F H1 F1) : Fr g H0 F0 H1 F1 :=
  ⟨fun a o m h => q.pre a o m (r.pre a o m h), q.j, q.sub, r.f0.trans q.f0, fun a h => (q.old a (r.there h)).trans (r.old a h), fun a m => ⟨(q.nm a m).1, (r.nm a m).2⟩⟩
/-- a callee that does not touch the deck -/
theorem Fr.lift (r : Fr g H0 F0 H F) (q : Fr none H F H1 F1) : Fr g H F H1 F1 :=
  ⟨fun a o _ h => q.pre a o (fun z => z) h, r.j.loc (fun a m => by
    cases e : H a with
    | none => exact absurd e (r.j.has m)
    | some o => exact q.pre a o (fun z => z) e), q.sub, q.f0, q.old, fun a m => ⟨by rw [q.old a (r.j.has m)]; exact (r.nm a m).1, r.j.has m⟩⟩
/-- without the deck -/
theorem Fr.bare (r : Fr g H0 F0 H F) : Fr none H F H F := ⟨fun _ _ _ h => h, trivial, r.sub, Ex.refl _, fun _ _ => rfl, fun _ m => m.elim⟩
theorem Fr.freeF (r : Fr g H0 F0 H F) {p : Addr} (h : H p = none) : F p = none := by
  cases e : F p with
  | none => rfl
  | some o => rw [r.sub p o e] at h; cases h
theorem Fr.freeM (r : Fr g H0 F0 H F) {p : Addr} (h : H p = none) : ¬ g.M p := fun m => r.j.has m h
/-- a new object, frozen -/
theorem Fr.new (r : Fr g H0 F0 H F) {p : Addr} {o : HO} (h : H p = none) : Fr g H F (upd H p o) (upd F p o) := by
  have hF := r.freeF h
  have hM := r.freeM h
  refine ⟨fun a u _ e => by rw [upd_ne (ne_of_none e h)]; exact e, r.j.loc fun a m => upd_ne (fun z => hM (by rw [← z]; exact m)), fun a u e => ?_, fun a u e => by rw [upd_ne (ne_of_none e hF)]; exact e, fun a e => upd_ne (fun z => e (by rw [z]; exact h)), fun a m => ⟨?_, r.j.has m⟩⟩
  · by_cases q : a = p
    · subst q; rw [upd_same] at e ⊢; exact e
    · rw [upd_ne q] at e ⊢; exact r.sub a u e
  · rw [upd_ne (fun z => hM (by rw [← z]; exact m))]; exact (r.nm a m).1
/-- a new object, held by a name of ours -/
theorem Fr.newO (r : Fr g H0 F0 H F) {p : Addr} {o : HO} (h : H p = none) : Fr g H F (upd H p o) F := by
  have hM := r.freeM h
  refine ⟨fun a u _ e => by rw [upd_ne (ne_of_none e h)]; exact e, r.j.loc fun a m => upd_ne (fun z => hM (by rw [← z]; exact m)), fun a u e => ?_, Ex.refl _, fun a e => rfl, fun a m => ⟨(r.nm a m).1, r.j.has m⟩⟩
  have := r.sub a u e
  rw [upd_ne (ne_of_none this h)]; exact this
/-- an object of ours is frozen -/
theorem Fr.freeze (r : Fr g H0 F0 H F) {p : Addr} {o : HO} (h : H p = some o) (h0 : H0 p = none) (hF : F p = none) : Fr g H0 F0 H (upd F p o) := by
  have hM : ¬ g.M p := fun m => (r.nm p m).2 h0
  refine ⟨r.pre, r.j, fun a u e => ?_, fun a u e => by rw [upd_ne (ne_of_none (r.f0 a u e) hF)]; exact r.f0 a u e, fun a e => by rw [upd_ne (fun z => e (by rw [z]; exact h0))]; exact r.old a e, fun a m => ⟨by rw [upd_ne (fun z => hM (by rw [← z]; exact m))]; exact (r.nm a m).1, (r.nm a m).2⟩⟩
  by_cases q : a = p
  · subst q; rw [upd_same] at e; cases e; exact h
  · rw [upd_ne q] at e; exact r.sub a u e
/-- an object of ours is written -/
theorem Fr.write (r : Fr g H0 F0 H F) {p : Addr} {o : HO} (h0 : H0 p = none) (hF : F p = none) : Fr g H0 F0 (upd H p o) F := by
  have hM : ¬ g.M p := fun m => (r.nm p m).2 h0
  refine ⟨fun a u m e => by rw [upd_ne (ne_of_none e h0)]; exact r.pre a u m e, r.j.loc fun a m => upd_ne (fun z => hM (by rw [← z]; exact m)), fun a u e => ?_, r.f0, r.old, r.nm⟩
  rw [upd_ne (ne_of_none e hF)]; exact r.sub a u e
end
theorem upd_ex {F : Hp} {p : Addr} {o : HO} (h : F p = none) : Ex F (upd F p o) := fun a u e => by rw [upd_ne (ne_of_none e h)]; exact e

/-! ### slots and data -/
abbrev Ro := List (Option D)
structure Rel (K : PySem.W.Frag) (g : Gd) (H0 F0 : Hp) (m : List Nat) (σ : L2.St) (H F : Hp) (ρ : Ro) : Prop where
  fr : Fr g H0 F0 H F
  len : σ.length = ρ.length
  vals : ∀ i d, ρ[i]? = some (some d) → i ∉ m → ∃ v, σ[i]? = some (some v) ∧ Is K F v d
  own : ∃ oa : Nat → Addr, (∀ i ∈ m, ∃ vs xs, σ[i]? = some (some (.ref (oa i))) ∧ ρ[i]? = some (some (.lst xs)) ∧ H (oa i) = some (.lst vs) ∧ IsAll K F vs xs ∧ F (oa i) = none ∧ H0 (oa i) = none) ∧ ∀ i ∈ m, ∀ j ∈ m, oa i = oa j → i = j
section
variable {K : PySem.W.Frag} {g : Gd} {H0 F0 H F H1 F1 : Hp} {m : List Nat} {σ : L2.St} {ρ : Ro}
/-- behind a deed that leaves our names and lists alone -/
theorem Rel.step (r : Rel K g H0 F0 m σ H F ρ) (q : Fr g H F H1 F1) : Rel K g H0 F0 m σ H1 F1 ρ := by
  refine ⟨r.fr.trans q, r.len, fun i d h1 h2 => ?_, ?_⟩
  · obtain ⟨v, e, h⟩ := r.vals i d h1 h2
    exact ⟨v, e, h.up q.f0⟩
  · obtain ⟨oa, h1, h2⟩ := r.own
    refine ⟨oa, fun i hi => ?_, h2⟩
    obtain ⟨vs, xs, e1, e2, e3, e4, e5, e6⟩ := h1 i hi
    have nM : ¬ g.M (oa i) := fun z => (r.fr.nm _ z).2 e6
    exact ⟨vs, xs, e1, e2, q.pre _ _ nM e3, e4.up q.f0, by rw [q.old _ (by rw [e3]; exact fun z => by cases z)]; exact e5, e6⟩
theorem Rel.val (r : Rel K g H0 F0 m σ H F ρ) {i : Nat} {d : D} (h : ρ[i]? = some (some d)) (hi : i ∉ m) : ∃ v, σ[i]? = some (some v) ∧ Is K F v d := r.vals i d h hi
/-- slots forgotten -/
theorem set_get {α : Type} {l : List α} {i j : Nat} {x y : α} (h : (l.set i x)[j]? = some y) : (j = i ∧ y = x) ∨ (j ≠ i ∧ l[j]? = some y) := by
  by_cases e : i = j
  · subst e
    have hl : i < l.length := by have := (List.getElem?_eq_some_iff.mp h).1; rwa [List.length_set] at this
    rw [List.getElem?_set_self hl] at h
    exact .inl ⟨rfl, (Option.some.inj h).symm⟩
  · rw [List.getElem?_set_ne e] at h
    exact .inr ⟨fun z => e z.symm, h⟩
/-- a name is given data -/
theorem Rel.set (r : Rel K g H0 F0 m σ H F ρ) {i : Nat} {v : V} {d : D} (h : Is K F v d) (hi : i < ρ.length) : Rel K g H0 F0 (m.filter (· ≠ i)) (σ.set i (some v)) H F (ρ.set i (some d)) := by
  refine ⟨r.fr, by rw [List.length_set, List.length_set]; exact r.len, fun j d' h1 h2 => ?_, ?_⟩
  · rcases set_get h1 with ⟨rfl, e⟩ | ⟨hj, e⟩
    · cases e
      exact ⟨v, List.getElem?_set_self (by rw [r.len]; exact hi), h⟩
    · have hm : j ∉ m := fun z => h2 (List.mem_filter.mpr ⟨z, by simpa using hj⟩)
      obtain ⟨w, e1, e2⟩ := r.vals j d' e hm
      exact ⟨w, by rw [List.getElem?_set_ne (Ne.symm hj)]; exact e1, e2⟩
  · obtain ⟨oa, h1, h2⟩ := r.own
    refine ⟨oa, fun j hj => ?_, fun a ha b hb => h2 a (List.mem_filter.mp ha).1 b (List.mem_filter.mp hb).1⟩
    obtain ⟨hj1, hj2⟩ := List.mem_filter.mp hj
    have hj2 : j ≠ i := by simpa using hj2
    obtain ⟨vs, xs, e1, e2, e3⟩ := h1 j hj1
    exact ⟨vs, xs, by rw [List.getElem?_set_ne (Ne.symm hj2)]; exact e1, by rw [List.getElem?_set_ne (Ne.symm hj2)]; exact e2, e3⟩
/-- a name is given a new list of ours -/
theorem Rel.setO (r : Rel K g H0 F0 m σ H F ρ) {i : Nat} {p : Addr} {vs : List V} {xs : List D} (hi : i < ρ.length) (hp : H p = some (.lst vs)) (hF : F p = none) (h0 : H0 p = none) (ha : IsAll K F vs xs)
    (hn : ∀ j v, σ[j]? = some (some v) → j ∈ m → v ≠ .ref p) : Rel K g H0 F0 (i :: m.filter (· ≠ i)) (σ.set i (some (.ref p))) H F (ρ.set i (some (.lst xs))) := by
  refine ⟨r.fr, by rw [List.length_set, List.length_set]; exact r.len, fun j d' h1 h2 => ?_, ?_⟩
  · rcases set_get h1 with ⟨rfl, e⟩ | ⟨hj, e⟩
    · exact absurd List.mem_cons_self h2
    · have hm : j ∉ m := fun z => h2 (List.mem_cons_of_mem _ (List.mem_filter.mpr ⟨z, by simpa using hj⟩))
      obtain ⟨w, e1, e2⟩ := r.vals j d' e hm
      exact ⟨w, by rw [List.getElem?_set_ne (Ne.symm hj)]; exact e1, e2⟩
  · obtain ⟨oa, h1, h2⟩ := r.own
    have old : ∀ j ∈ m.filter (· ≠ i), j ∈ m ∧ j ≠ i := fun j hj => ⟨(List.mem_filter.mp hj).1, by simpa using (List.mem_filter.mp hj).2⟩
    have ne : ∀ j ∈ m, oa j ≠ p := fun j hj z => by
      obtain ⟨_, _, e1, _⟩ := h1 j hj
      exact hn j _ e1 hj (by rw [z])
    have o1 : (fun j => if j = i then p else oa j) i = p := if_pos rfl
    have o2 : ∀ j, j ≠ i → (fun j => if j = i then p else oa j) j = oa j := fun j h => if_neg h
    generalize (fun j => if j = i then p else oa j) = ob at o1 o2
    refine ⟨ob, fun j hj => ?_, fun a ha' b hb' e => ?_⟩
    · rcases List.mem_cons.mp hj with rfl | hj
      · rw [o1]
        exact ⟨vs, xs, List.getElem?_set_self (by rw [r.len]; exact hi), List.getElem?_set_self hi, hp, ha, hF, h0⟩
      · obtain ⟨hj1, hj2⟩ := old j hj
        rw [o2 j hj2]
        obtain ⟨vs', xs', e1, e2, e3⟩ := h1 j hj1
        exact ⟨vs', xs', by rw [List.getElem?_set_ne (Ne.symm hj2)]; exact e1, by rw [List.getElem?_set_ne (Ne.symm hj2)]; exact e2, e3⟩
    · rcases List.mem_cons.mp ha' with rfl | ha'
      · rcases List.mem_cons.mp hb' with rfl | hb'
        · rfl
        · obtain ⟨hb1, hb2⟩ := old b hb'
          rw [o1, o2 b hb2] at e
          exact absurd e.symm (ne b hb1)
      · obtain ⟨ha1, ha2⟩ := old a ha'
        rcases List.mem_cons.mp hb' with rfl | hb'
        · rw [o2 a ha2, o1] at e
          exact absurd e (ne a ha1)
        · obtain ⟨hb1, hb2⟩ := old b hb'
          rw [o2 a ha2, o2 b hb2] at e
          exact h2 a ha1 b hb1 e
/-- a list of ours is frozen -/
theorem Rel.freeze1 (r : Rel K g H0 F0 m σ H F ρ) (i : Nat) : ∃ F', Rel K g H0 F0 (m.filter (· ≠ i)) σ H F' ρ ∧ Ex F F' := by
  by_cases hi : i ∈ m
  · obtain ⟨oa, h1, h2⟩ := r.own
    obtain ⟨vs, xs, e1, e2, e3, e4, e5, e6⟩ := h1 i hi
    have ex : Ex F (upd F (oa i) (.lst vs)) := upd_ex e5
    refine ⟨upd F (oa i) (.lst vs), ⟨r.fr.freeze e3 e6 e5, r.len, fun j d h3 h4 => ?_, oa, fun j hj => ?_, fun a ha b hb => h2 a (List.mem_filter.mp ha).1 b (List.mem_filter.mp hb).1⟩, ex⟩
    · by_cases hj : j = i
      · subst hj
        rw [e2] at h3
        cases h3
        exact ⟨_, e1, .lst upd_same (e4.up ex)⟩
      · have hm : j ∉ m := fun z => h4 (List.mem_filter.mpr ⟨z, by simpa using hj⟩)
        obtain ⟨v, q1, q2⟩ := r.vals j d h3 hm
        exact ⟨v, q1, q2.up ex⟩
    · obtain ⟨hj1, hj2⟩ := List.mem_filter.mp hj
      have hj2 : j ≠ i := by simpa using hj2
      obtain ⟨vs', xs', q1, q2, q3, q4, q5, q6⟩ := h1 j hj1
      have hne : oa j ≠ oa i := fun z => hj2 (h2 j hj1 i hi z)
      exact ⟨vs', xs', q1, q2, q3, q4.up ex, by rw [upd_ne hne]; exact q5, q6⟩
  · refine ⟨F, ?_, Ex.refl _⟩
    have e : m.filter (· ≠ i) = m := List.filter_eq_self.mpr fun a ha => by
      have : a ≠ i := fun z => hi (z ▸ ha)
      simpa using this
    rw [e]
    exact r
theorem Rel.congr {m' : List Nat} (r : Rel K g H0 F0 m σ H F ρ) (h : ∀ i, i ∈ m' ↔ i ∈ m) : Rel K g H0 F0 m' σ H F ρ := by
  refine ⟨r.fr, r.len, fun i d h1 h2 => r.vals i d h1 fun z => h2 ((h i).mpr z), ?_⟩
  obtain ⟨oa, h1, h2⟩ := r.own
  exact ⟨oa, fun i hi => h1 i ((h i).mp hi), fun a ha b hb => h2 a ((h a).mp ha) b ((h b).mp hb)⟩
theorem Rel.freezeAll (r : Rel K g H0 F0 m σ H F ρ) : ∀ l : List Nat, ∃ F', Rel K g H0 F0 (m.filter (· ∉ l)) σ H F' ρ ∧ Ex F F'
  | [] => ⟨F, r.congr fun i => by simp, Ex.refl _⟩
  | i :: l => by
    obtain ⟨F1, r1, x1⟩ := Rel.freezeAll r l
    obtain ⟨F2, r2, x2⟩ := r1.freeze1 i
    exact ⟨F2, r2.congr fun j => by
      simp only [List.mem_filter, List.mem_cons, not_or, decide_eq_true_eq]
      constructor
      · rintro ⟨a, b, c⟩; exact ⟨⟨a, c⟩, b⟩
      · rintro ⟨⟨a, c⟩, b⟩; exact ⟨a, b, c⟩, x1.trans x2⟩
/-- only the lists of m' are still ours -/
theorem Rel.weak {m' : List Nat} (r : Rel K g H0 F0 m σ H F ρ) (h : m'.all (fun i => m.contains i) = true) : ∃ F', Rel K g H0 F0 m' σ H F' ρ ∧ Ex F F' := by
  obtain ⟨F1, r1, x1⟩ := r.freezeAll (m.filter (· ∉ m'))
  refine ⟨F1, r1.congr fun i => ?_, x1⟩
  have hs : i ∈ m' → i ∈ m := fun hi => by simpa using List.all_eq_true.mp h i hi
  simp only [List.mem_filter, decide_eq_true_eq, not_and, Decidable.not_not]
  exact ⟨fun hi => ⟨hs hi, fun _ => hi⟩, fun ⟨a, b⟩ => b a⟩
end
end DL

/-! DL2: the readings over data, expressions. -/
namespace DL
open PySem L2
abbrev XD := Addr → D → Prop
/-- what is wanted of an exception: its class, what it carries -/
def XE (K : PySem.W.Frag) (g : Gd) (H F : Hp) (x : XD) (E : XK) : Prop :=
  ∀ (C dx : Addr) (H' F' : Hp) (v : V) (d : D), Fr g H F H' F' → H dx = none → H' dx = some (.xd [("thing", v)]) → Is K F' v d → x C d → E (.ref C) (some dx) H'
abbrev x0 : XD := fun _ _ => False
section
variable {K : PySem.W.Frag} {g : Gd} {H0 F0 H F H1 F1 : Hp} {x : XD} {E : XK}
theorem XE.step (h : XE K g H F x E) (r : Fr g H F H1 F1) : XE K g H1 F1 x E := fun C dx H' F' v d q n e i hx => h C dx H' F' v d (r.trans q) (r.back n) e i hx
theorem XE.none : XE K g H F x0 E := fun _ _ _ _ _ _ _ _ _ _ hx => hx.elim
end
abbrev FE := Ro → (D → Prop) → XD → Prop
abbrev FT := Ro → (Bool → Prop) → XD → Prop
abbrev FA := Ro → (List D → Prop) → XD → Prop
/-- an expression that gives data -/
def tE (K : PySem.W.Frag) (g : Gd) (E : XK) (m : List Nat) (f : FE) : TE := fun σ H Q => ∃ H0 F0 F ρ q x, Rel K g H0 F0 m σ H F ρ ∧ f ρ q x ∧
  (∀ v H' F' d, Fr g H F H' F' → Is K F' v d → q d → Q v H') ∧ XE K g H F x E
/-- .. a list that a name of ours may hold alone, or data -/
def IsB (K : PySem.W.Frag) (g : Gd) (F H : Hp) (v : V) (d : D) : Prop := Is K F v d ∨ ∃ a vs xs, v = .ref a ∧ d = .lst xs ∧ H a = some (.lst vs) ∧ ¬ g.M a ∧ IsAll K F vs xs
def tBo (K : PySem.W.Frag) (g : Gd) (E : XK) (m : List Nat) (f : FE) : TE := fun σ H Q => ∃ H0 F0 F ρ q x, Rel K g H0 F0 m σ H F ρ ∧ f ρ q x ∧
  (∀ v H' F' d, Fr g H F H' F' → IsB K g F' H' v d → q d → Q v H') ∧ XE K g H F x E
/-- .. a new list -/
def tF (K : PySem.W.Frag) (g : Gd) (E : XK) (m : List Nat) (f : FE) : TE := fun σ H Q => ∃ H0 F0 F ρ q x, Rel K g H0 F0 m σ H F ρ ∧ f ρ q x ∧
  (∀ p H' F' vs xs, Fr g H F H' F' → H p = none → H' p = some (.lst vs) → F' p = none → IsAll K F' vs xs → q (.lst xs) → Q (.ref p) H') ∧ XE K g H F x E
def tT (K : PySem.W.Frag) (g : Gd) (E : XK) (m : List Nat) (f : FT) : TT := fun σ H Q => ∃ H0 F0 F ρ q x, Rel K g H0 F0 m σ H F ρ ∧ f ρ q x ∧
  (∀ b H' F', Fr g H F H' F' → q b → Q b H') ∧ XE K g H F x E
def tA (K : PySem.W.Frag) (g : Gd) (E : XK) (m : List Nat) (f : FA) : TA := fun σ H Q => ∃ H0 F0 F ρ q x, Rel K g H0 F0 m σ H F ρ ∧ f ρ q x ∧
  (∀ vs H' F' ds, Fr g H F H' F' → IsAll K F' vs ds → q ds → Q vs H') ∧ XE K g H F x E
abbrev DE (X : Cx) (g : Gd) (E : XK) (m : List Nat) (e : Expr) (f : FE) : Prop := PE X e (tE X.K g E m f)
abbrev DB (X : Cx) (g : Gd) (E : XK) (m : List Nat) (e : Expr) (f : FE) : Prop := PE X e (tBo X.K g E m f)
abbrev DF (X : Cx) (g : Gd) (E : XK) (m : List Nat) (e : Expr) (f : FE) : Prop := PE X e (tF X.K g E m f)
abbrev DT (X : Cx) (g : Gd) (E : XK) (m : List Nat) (e : Expr) (f : FT) : Prop := PT X e (tT X.K g E m f)
abbrev DW (X : Cx) (g : Gd) (E : XK) (m : List Nat) (e : Expr) (f : FT) : Prop := PW X e (tT X.K g E m f)
abbrev DA (X : Cx) (g : Gd) (E : XK) (m : List Nat) (es : List Expr) (f : FA) : Prop := PA X es (tA X.K g E m f)

theorem PEimp {X : Cx} {e : Expr} {t t' : TE} (h : PE X e t) (i : ∀ σ H Q, t' σ H Q → t σ H Q) : PE X e t' := ⟨fun pins s σ H Q I q => h.run pins s σ H Q I (i σ H Q q)⟩
theorem PTimp {X : Cx} {e : Expr} {t t' : TT} (h : PT X e t) (i : ∀ σ H Q, t' σ H Q → t σ H Q) : PT X e t' := ⟨fun pins s σ H Q I q => h.run pins s σ H Q I (i σ H Q q)⟩
theorem PWimp {X : Cx} {e : Expr} {t t' : TT} (h : PW X e t) (i : ∀ σ H Q, t' σ H Q → t σ H Q) : PW X e t' := ⟨fun wh pins s σ H Q I q => h.run wh pins s σ H Q I (i σ H Q q)⟩
theorem PAimp {X : Cx} {e : List Expr} {t t' : TA} (h : PA X e t) (i : ∀ σ H Q, t' σ H Q → t σ H Q) : PA X e t' := ⟨fun pos pins s σ H Q I q => h.run pos pins s σ H Q I (i σ H Q q)⟩
theorem PSimp {X : Cx} {e : Stmt} {t t' : TS} (h : PS X e t) (i : ∀ D σ H, t' D σ H → t D σ H) : PS X e t' := ⟨fun pins s σ H D I q => h.run pins s σ H D I (i D σ H q)⟩
theorem PSsimp {X : Cx} {e : List Stmt} {t t' : TS} (h : PSs X e t) (i : ∀ D σ H, t' D σ H → t D σ H) : PSs X e t' := ⟨fun pins s σ H D I q => h.run pins s σ H D I (i D σ H q)⟩

/-! ### from one to another -/
section
variable {X : Cx} {g : Gd} {E : XK} {m : List Nat} {e : Expr} {f : FE}
theorem DE.toB (h : DE X g E m e f) : DB X g E m e f := PEimp h fun σ H Q ⟨H0, F0, F, ρ, q, x, R, hf, hq, hx⟩ =>
  ⟨H0, F0, F, ρ, q, x, R, hf, fun v H' F' d r i hd => hq v H' F' d r (.inl i) hd, hx⟩
/-- a new list, frozen at once -/
theorem DF.toE (h : DF X g E m e f) : DE X g E m e f := PEimp h fun σ H Q ⟨H0, F0, F, ρ, q, x, R, hf, hq, hx⟩ =>
  ⟨H0, F0, F, ρ, q, x, R, hf, fun p H' F' vs xs r n h1 h2 ha hd => hq _ H' (upd F' p (.lst vs)) _ (r.freeze h1 n h2) (.lst upd_same (ha.up (upd_ex h2))) hd, hx⟩
theorem DF.toB (h : DF X g E m e f) : DB X g E m e f := DE.toB (DF.toE h)
end
theorem IsB.up {K : PySem.W.Frag} {g : Gd} {F H F' H' : Hp} {v : V} {d : D} (h : IsB K g F H v d) (r : Fr g H F H' F') : IsB K g F' H' v d := by
  rcases h with h | ⟨a, vs, xs, rfl, rfl, h1, h2, h3⟩
  · exact .inl (h.up r.f0)
  · exact .inr ⟨a, vs, xs, rfl, rfl, r.pre _ _ h2 h1, h2, h3.up r.f0⟩

/-! ### names, constants -/
def fVar (i : Nat) : FE := fun ρ q _ => match ρ[i]? with | some (some d) => q d | _ => False
def fK (d : D) : FE := fun _ q _ => q d
section
variable {X : Cx} {g : Gd} {E : XK} {m : List Nat}
theorem de_of {e : Expr} {i : Nat} (h : PE X e (tVar i)) (hm : m.contains i = false := by rfl) : DE X g E m e (fVar i) := PEimp h fun σ H Q ⟨H0, F0, F, ρ, q, x, R, hf, hq, hx⟩ => by
  unfold fVar at hf
  split at hf
  · rename_i d e
    obtain ⟨v, e1, e2⟩ := R.vals i d e (by simpa using hm)
    exact ⟨v, e1, hq v H F d R.fr.self e2 hf⟩
  · exact hf.elim
theorem db_of {e : Expr} {i : Nat} (h : PE X e (tVar i)) : DB X g E m e (fVar i) := PEimp h fun σ H Q ⟨H0, F0, F, ρ, q, x, R, hf, hq, hx⟩ => by
  unfold fVar at hf
  split at hf
  · rename_i d e
    by_cases hm : i ∈ m
    · obtain ⟨oa, h1, _⟩ := R.own
      obtain ⟨vs, xs, e1, e2, e3, e4, e5, e6⟩ := h1 i hm
      rw [e] at e2
      cases e2
      exact ⟨_, e1, hq _ H F _ R.fr.self (.inr ⟨_, _, _, rfl, rfl, e3, fun z => (R.fr.nm _ z).2 e6, e4⟩) hf⟩
    · obtain ⟨v, e1, e2⟩ := R.vals i d e hm
      exact ⟨v, e1, hq v H F d R.fr.self (.inl e2) hf⟩
  · exact hf.elim
theorem de_c {e : Expr} {v : V} {d : D} (h : PE X e (tC v)) (hi : ∀ F, Is X.K F v d) : DE X g E m e (fK d) := PEimp h fun σ H Q ⟨H0, F0, F, ρ, q, x, R, hf, hq, hx⟩ => hq v H F d R.fr.self (hi F) hf
theorem de_int {i : Int} {j : Nat} {pos : Pos} : DE X g E m (.Constant (.int i) j pos) (fK (.int i)) := de_c pe_int fun _ => .int i
theorem de_bl {b : Bool} {j : Nat} {pos : Pos} : DE X g E m (.Constant (.bool b) j pos) (fK (.bl b)) := de_c pe_bl fun _ => .bl b
theorem de_non {j : Nat} {pos : Pos} : DE X g E m (.Constant .none j pos) (fK .non) := de_c pe_non fun _ => .non
theorem de_str {x : Str} {j : Nat} {pos : Pos} : DE X g E m (.Constant (.str x) j pos) (fK (.str x)) := de_c pe_str fun _ => .str x
/-- a module's constant -/
theorem de_glob {x : Str} {v : V} {u : Value} {d : D} {pos : Pos} (hg : Gl X x) (hm : X.mg x = some u) (r : RelV v u) (hi : ∀ F, Is X.K F v d) (hd : (x == ("__debug__" : Str)) = false := by decide) : DE X g E m (.Name x pos) (fK d) := de_c (pe_glob hg hm r hd) hi
end

/-! ### two operands, one -/
def f2 (sem : D → D → (D → Prop) → XD → Prop) (fa fb : FE) : FE := fun ρ q x => fa ρ (fun a => fb ρ (fun b => sem a b q x) x) x
def f1 (sem : D → (D → Prop) → XD → Prop) (fa : FE) : FE := fun ρ q x => fa ρ (fun a => sem a q x) x
/-- an operator by values does sem on data -/
def Sem2 (K : PySem.W.Frag) (r : R2) (sem : D → D → (D → Prop) → XD → Prop) : Prop :=
  ∀ (g : Gd) (E : XK) (H F : Hp) (v w : V) (a b : D) (q : D → Prop) (x : XD) (Q : VK), Fr g H F H F → IsB K g F H v a → IsB K g F H w b → sem a b q x →
    (∀ u H' F' d, Fr g H F H' F' → Is K F' u d → q d → Q u H') → XE K g H F x E → r v w H Q
/-- .. giving a new list -/
def Sem2F (K : PySem.W.Frag) (r : R2) (sem : D → D → (D → Prop) → XD → Prop) : Prop :=
  ∀ (g : Gd) (E : XK) (H F : Hp) (v w : V) (a b : D) (q : D → Prop) (x : XD) (Q : VK), Fr g H F H F → IsB K g F H v a → IsB K g F H w b → sem a b q x →
    (∀ p H' F' vs xs, Fr g H F H' F' → H p = none → H' p = some (.lst vs) → F' p = none → IsAll K F' vs xs → q (.lst xs) → Q (.ref p) H') → XE K g H F x E → r v w H Q
def Sem1 (K : PySem.W.Frag) (r : V → Hp → VK → Prop) (sem : D → (D → Prop) → XD → Prop) : Prop :=
  ∀ (g : Gd) (E : XK) (H F : Hp) (v : V) (a : D) (q : D → Prop) (x : XD) (Q : VK), Fr g H F H F → IsB K g F H v a → sem a q x →
    (∀ u H' F' d, Fr g H F H' F' → Is K F' u d → q d → Q u H') → XE K g H F x E → r v H Q
section
variable {X : Cx} {g : Gd} {E : XK} {m : List Nat} {a b : Expr} {fa fb : FE} {sem : D → D → (D → Prop) → XD → Prop} {r : R2}
theorem de_2 {e : Expr} (h : PE X e (tOp r (tBo X.K g E m fa) (tBo X.K g E m fb))) (hs : Sem2 X.K r sem) : DE X g E m e (f2 sem fa fb) := PEimp h fun σ H Q ⟨H0, F0, F, ρ, q, x, R, hf, hq, hx⟩ => by
  refine ⟨H0, F0, F, ρ, _, x, R, hf, fun v H1 F1 d r1 i1 hb => ?_, hx⟩
  refine ⟨H0, F0, F1, ρ, _, x, R.step r1, hb, fun w H2 F2 d2 r2 i2 hs2 => ?_, hx.step r1⟩
  exact hs g E H2 F2 v w d d2 q x Q ((R.step r1).step r2).fr.self (i1.up r2) i2 hs2 (fun u H' F' d' r3 i3 hd => hq u H' F' d' (r1.trans (r2.trans r3)) i3 hd) ((hx.step r1).step r2)
theorem df_2 {e : Expr} (h : PE X e (tOp r (tBo X.K g E m fa) (tBo X.K g E m fb))) (hs : Sem2F X.K r sem) : DF X g E m e (f2 sem fa fb) := PEimp h fun σ H Q ⟨H0, F0, F, ρ, q, x, R, hf, hq, hx⟩ => by
  refine ⟨H0, F0, F, ρ, _, x, R, hf, fun v H1 F1 d r1 i1 hb => ?_, hx⟩
  refine ⟨H0, F0, F1, ρ, _, x, R.step r1, hb, fun w H2 F2 d2 r2 i2 hs2 => ?_, hx.step r1⟩
  exact hs g E H2 F2 v w d d2 q x Q ((R.step r1).step r2).fr.self (i1.up r2) i2 hs2 (fun p H' F' vs xs r3 n h1 h2 ha hd => hq p H' F' vs xs (r1.trans (r2.trans r3)) (r1.back (r2.back n)) h1 h2 ha hd) ((hx.step r1).step r2)
theorem de_1 {e : Expr} {r : V → Hp → VK → Prop} {sem : D → (D → Prop) → XD → Prop} (h : PE X e (tUn r (tBo X.K g E m fa))) (hs : Sem1 X.K r sem) : DE X g E m e (f1 sem fa) := PEimp h fun σ H Q ⟨H0, F0, F, ρ, q, x, R, hf, hq, hx⟩ => by
  refine ⟨H0, F0, F, ρ, _, x, R, hf, fun v H1 F1 d r1 i1 hb => ?_, hx⟩
  exact hs g E H1 F1 v d q x Q (R.step r1).fr.self i1 hb (fun u H' F' d' r3 i3 hd => hq u H' F' d' (r1.trans r3) i3 hd) (hx.step r1)
end

/-! ### numbers -/
/-- two integers -/
def sI (C : Int → Int → Prop) (h : Int → Int → D) : D → D → (D → Prop) → XD → Prop := fun a b q _ => match a, b with | .int i, .int j => C i j ∧ q (h i j) | _, _ => False
theorem IsB.int {K : PySem.W.Frag} {g : Gd} {F H : Hp} {v : V} {i : Int} (h : IsB K g F H v (.int i)) : v = .int i := by
  rcases h with h | ⟨_, _, _, _, z, _⟩
  · cases h; rfl
  · cases z
theorem IsB.bl {K : PySem.W.Frag} {g : Gd} {F H : Hp} {v : V} {i : Bool} (h : IsB K g F H v (.bl i)) : v = .bl i := by
  rcases h with h | ⟨_, _, _, _, z, _⟩
  · cases h; rfl
  · cases z
theorem IsB.str {K : PySem.W.Frag} {g : Gd} {F H : Hp} {v : V} {i : Str} (h : IsB K g F H v (.str i)) : v = .str i := by
  rcases h with h | ⟨_, _, _, _, z, _⟩
  · cases h; rfl
  · cases z
theorem IsB.tup {K : PySem.W.Frag} {g : Gd} {F H : Hp} {v : V} {ds : List D} (h : IsB K g F H v (.tup ds)) : ∃ a xs, v = .ref a ∧ SqT K F a xs ∧ IsAll K F xs ds := by
  rcases h with h | ⟨_, _, _, _, z, _⟩
  · cases h with | tup h1 h2 => exact ⟨_, _, rfl, h1, h2⟩
  · cases z
theorem IsB.lst {K : PySem.W.Frag} {g : Gd} {F H : Hp} {v : V} {ds : List D} (s : Ex F H) (h : IsB K g F H v (.lst ds)) : ∃ a xs, v = .ref a ∧ H a = some (.lst xs) ∧ IsAll K F xs ds := by
  rcases h with h | ⟨a, xs, _, rfl, z, e, _, ha⟩
  · cases h with | lst h1 h2 => exact ⟨_, _, rfl, s _ _ h1, h2⟩
  · cases z; exact ⟨_, _, rfl, e, ha⟩
theorem sem_I {K : PySem.W.Frag} {C : Int → Int → Prop} {h : Int → Int → D} {h' : Int → Int → V} (hi : ∀ i j F, Is K F (h' i j) (h i j)) : Sem2 K (rI C h') (sI C h) := by
  intro g E H F v w a b q x Q r ia ib hs hq hx
  cases a <;> cases b <;> first | exact hs.elim | skip
  obtain ⟨hc, hs⟩ := hs
  exact ⟨_, _, ia.int, ib.int, hc, hq _ H F _ r (hi _ _ F) hs⟩
/-- without a condition -/
def sI0 (h : Int → Int → D) : D → D → (D → Prop) → XD → Prop := fun a b q _ => match a, b with | .int i, .int j => q (h i j) | _, _ => False
theorem sem_I0 {K : PySem.W.Frag} {h : Int → Int → D} {h' : Int → Int → V} (hi : ∀ i j F, Is K F (h' i j) (h i j)) : Sem2 K (rI0 h') (sI0 h) := by
  intro g E H F v w a b q x Q r ia ib hs hq hx
  cases a <;> cases b <;> first | exact hs.elim | skip
  exact ⟨_, _, ia.int, ib.int, hq _ H F _ r (hi _ _ F) hs⟩

/-! ### data as the library's own data -/
mutual
def D.py : D → PyData
  | .non => .none
  | .bl b => .bool b
  | .int i => .int i
  | .str s => .str s
  | .tup xs => .tuple (D.pys xs)
  | .lst xs => .list (D.pys xs)
  | .ref _ => .none
def D.pys : List D → List PyData
  | [] => []
  | x :: xs => D.py x :: D.pys xs
end
mutual
/-- no thing known by its address alone, texts well made -/
def D.ok : D → Bool
  | .non => true
  | .bl _ => true
  | .int _ => true
  | .str s => PyData.strOk s
  | .tup xs => D.oks xs
  | .lst xs => D.oks xs
  | .ref _ => false
def D.oks : List D → Bool
  | [] => true
  | x :: xs => D.ok x && D.oks xs
end
mutual
def D.dep : D → Nat
  | .non => 0
  | .bl _ => 0
  | .int _ => 0
  | .str _ => 0
  | .tup xs => D.deps xs + 1
  | .lst xs => D.deps xs + 1
  | .ref _ => 0
def D.deps : List D → Nat
  | [] => 0
  | x :: xs => max (D.dep x) (D.deps xs)
end
mutual
/-- integers short enough to be shown -/
def D.shows : D → Bool
  | .non => true
  | .bl _ => true
  | .int i => decide (i.natAbs.log2 < 1920)
  | .str _ => true
  | .tup xs => D.showss xs
  | .lst xs => D.showss xs
  | .ref _ => false
def D.showss : List D → Bool
  | [] => true
  | x :: xs => D.shows x && D.showss xs
end
mutual
/-- at most so many signs when shown -/
def D.cost : D → Nat
  | .non => 8
  | .bl _ => 8
  | .int _ => 2000
  | .str s => 10 * s.length + 2
  | .tup xs => D.costs xs + 3
  | .lst xs => D.costs xs + 3
  | .ref _ => 8
def D.costs : List D → Nat
  | [] => 0
  | x :: xs => D.cost x + 2 + D.costs xs
end
mutual
theorem D.py_lay : ∀ d : D, d.ok = true → d.py.canLay0 = true
  | .non, _ => rfl
  | .bl _, _ => rfl
  | .int _, _ => rfl
  | .str s, h => h
  | .tup xs, h => D.pys_lay xs h
  | .lst xs, h => D.pys_lay xs h
  | .ref _, h => by cases h
theorem D.pys_lay : ∀ xs : List D, D.oks xs = true → PyData.canLayAll0 (D.pys xs) = true
  | [], _ => rfl
  | x :: xs, h => by
    have h' : (D.ok x && D.oks xs) = true := h
    rw [Bool.and_eq_true] at h'
    show (PyData.canLay0 (D.py x) && PyData.canLayAll0 (D.pys xs)) = true
    rw [D.py_lay x h'.1, D.pys_lay xs h'.2] <;> rfl
end
mutual
theorem D.py_dep : ∀ d : D, d.py.depth = d.dep
  | .non => rfl
  | .bl _ => rfl
  | .int _ => rfl
  | .str _ => rfl
  | .tup xs => congrArg (· + 1) (D.pys_dep xs)
  | .lst xs => congrArg (· + 1) (D.pys_dep xs)
  | .ref _ => rfl
theorem D.pys_dep : ∀ xs : List D, PyData.depthAll (D.pys xs) = D.deps xs
  | [] => rfl
  | x :: xs => by
    show max (PyData.depth (D.py x)) (PyData.depthAll (D.pys xs)) = max (D.dep x) (D.deps xs)
    rw [D.py_dep x, D.pys_dep xs]
end
theorem D.shaped {d : D} (h : d.ok = true) (h2 : d.dep ≤ 64) : SeqAt.shaped d.py = true := by
  unfold SeqAt.shaped
  rw [D.py_lay d h, D.py_dep, decide_eq_true h2] <;> rfl
mutual
theorem D.py_showable : ∀ d : D, d.shows = true → d.py.showable = true
  | .non, _ => rfl
  | .bl _, _ => rfl
  | .int _, h => h
  | .str _, _ => rfl
  | .tup xs, h => D.pys_showable xs h
  | .lst xs, h => D.pys_showable xs h
  | .ref _, h => by cases h
theorem D.pys_showable : ∀ xs : List D, D.showss xs = true → PyData.showableAll (D.pys xs) = true
  | [], _ => rfl
  | x :: xs, h => by
    have h' : (D.shows x && D.showss xs) = true := h
    rw [Bool.and_eq_true] at h'
    show (PyData.showable (D.py x) && PyData.showableAll (D.pys xs)) = true
    rw [D.py_showable x h'.1, D.pys_showable xs h'.2] <;> rfl
end
mutual
theorem D.shown_len : ∀ d : D, d.ok = true → d.shows = true → d.py.shown.length ≤ d.cost
  | .non, _, _ => by show (4 : Nat) ≤ 8; decide
  | .bl true, _, _ => by show (4 : Nat) ≤ 8; decide
  | .bl false, _, _ => by show (5 : Nat) ≤ 8; decide
  | .int i, _, h => by
    have h' : i.natAbs.log2 < 1920 := of_decide_eq_true h
    have h2 := PySem.int_text_length_le (a := i) (k := 1920) (by decide) h'
    show (Str.ofString (toString i)).length ≤ 2000
    rw [ofString_length]
    omega
  | .str s, h, _ => by
    have h' : PyData.strOk s = true := h
    refine StrLaws.reprText_len s fun c hc => ?_
    unfold PyData.strOk at h'
    rw [Array.all_eq_true_iff_forall_mem] at h'
    have := of_decide_eq_true (h' c (Array.mem_toList_iff.mp hc))
    exact Nat.lt_of_lt_of_le this (by decide)
  | .tup xs, h, h2 => by
    have h1 := D.shown_lens xs h h2
    have h3 := tupleText_len_le (PyData.shownAll (D.pys xs))
    show (tupleText (PyData.shownAll (D.pys xs))).length ≤ D.costs xs + 3
    omega
  | .lst xs, h, h2 => by
    have h1 := D.shown_lens xs h h2
    have h3 := listText_len_le (PyData.shownAll (D.pys xs))
    show (listText (PyData.shownAll (D.pys xs))).length ≤ D.costs xs + 3
    omega
  | .ref _, h, _ => by cases h
theorem D.shown_lens : ∀ xs : List D, D.oks xs = true → D.showss xs = true → ((PyData.shownAll (D.pys xs)).map (·.length)).sum + 2 * (PyData.shownAll (D.pys xs)).length ≤ D.costs xs
  | [], _, _ => Nat.le_refl _
  | x :: xs, h, h2 => by
    have h' : (D.ok x && D.oks xs) = true := h
    have h2' : (D.shows x && D.showss xs) = true := h2
    rw [Bool.and_eq_true] at h' h2'
    have q1 := D.shown_len x h'.1 h2'.1
    have q2 := D.shown_lens xs h'.2 h2'.2
    show (((PyData.shown (D.py x)) :: PyData.shownAll (D.pys xs)).map (·.length)).sum + 2 * ((PyData.shown (D.py x)) :: PyData.shownAll (D.pys xs)).length ≤ D.cost x + 2 + D.costs xs
    rw [List.map_cons, List.sum_cons, List.length_cons]
    omega
end
section
variable {K : PySem.W.Frag} {F : Hp}
mutual
theorem Is.dp : ∀ (d : D) (v : V), d.ok = true → Is K F v d → Dp K F v d.py
  | .non, _, _, h => by cases h; exact .non
  | .bl b, _, _, h => by cases h; exact .bl b
  | .int i, _, _, h => by cases h; exact .int i
  | .str x, _, _, h => by cases h; exact .str x
  | .tup ds, _, o, h => by
    cases h with
    | tup h1 h2 => exact .tup h1 (IsAll.dp ds _ o h2)
  | .lst ds, _, o, h => by
    cases h with
    | lst h1 h2 => exact .lst (.inl (.inl h1)) (IsAll.dp ds _ o h2)
  | .ref _, _, o, _ => by cases o
theorem IsAll.dp : ∀ (ds : List D) (vs : List V), D.oks ds = true → IsAll K F vs ds → DpAll K F vs (D.pys ds)
  | [], _, _, h => by cases h; exact .nil
  | d :: ds, _, o, h => by
    have o' : (D.ok d && D.oks ds) = true := o
    rw [Bool.and_eq_true] at o'
    cases h with
    | cons h1 h2 => exact .cons (Is.dp d _ o'.1 h1) (IsAll.dp ds _ o'.2 h2)
end
theorem IsB.dp {g : Gd} {H : Hp} {v : V} {d : D} (s : Ex F H) (h : IsB K g F H v d) (o : d.ok = true) : Dp K H v d.py := by
  rcases h with h | ⟨a, vs, xs, rfl, rfl, h1, _, h3⟩
  · exact Is.dp d v o (h.up s)
  · exact .lst (.inl (.inl h1)) (IsAll.dp xs vs o (h3.up s))
end
/-- == of data -/
def eqD (a b : D) : Bool := PyData.eqv a.py b.py
end DL

/-! DL3: operators, comparisons, tests, displays, subscripts, built-in calls over data. -/
namespace DL
open PySem L2
abbrev LN : Nat := 1000000
theorem LN_line {n : Nat} (h : n ≤ LN) : n ≤ sizeLine := Nat.le_trans h (by decide)
theorem LN_lt {n : Nat} (h : n ≤ LN) : n < sizeLine := Nat.lt_of_le_of_lt h (by decide)
section
variable {X : Cx} {g : Gd} {E : XK} {m : List Nat} {a b : Expr} {fa fb : FE} {pos : Pos}

/-! ### + -/
def sAdd : D → D → (D → Prop) → XD → Prop := fun a b q _ => match a, b with
  | .int i, .int j => q (.int (i + j))
  | .lst xs, .lst ys => xs.length + ys.length ≤ LN ∧ q (.lst (xs ++ ys))
  | .tup xs, .tup ys => xs.length + ys.length ≤ LN ∧ q (.tup (xs ++ ys))
  | .str x, .str y => x.length + y.length ≤ LN ∧ q (.str (x ++ y))
  | _, _ => False
def rAdd4 (K : PySem.W.Frag) : R2 := fun x y H Q => rI0 (fun i j => .int (i + j)) x y H Q ∨ rCat x y H Q ∨ rCatA K x y H Q ∨ (∃ i j, x = .str i ∧ y = .str j ∧ i.length + j.length ≤ sizeLine ∧ Q (.str (i ++ j)) H)
theorem op_add4 : OpR X (binaryOp .Add) (rAdd4 X.K) := op_add.or (op_cat.or (op_catA.or op_add_str))
theorem sem_add {K : PySem.W.Frag} : Sem2 K (rAdd4 K) sAdd := by
  intro g E H F v w a b q x Q r ia ib hs hq hx
  unfold sAdd at hs
  split at hs
  · exact .inl ⟨_, _, ia.int, ib.int, hq _ H F _ r (.int _) hs⟩
  · obtain ⟨hl, hs⟩ := hs
    obtain ⟨p, xs, rfl, h1, h2⟩ := ia.lst r.sub
    obtain ⟨p', ys, rfl, h1', h2'⟩ := ib.lst r.sub
    have e1 := h2.length
    have e2 := h2'.length
    exact .inr (.inl ⟨_, _, _, _, rfl, rfl, h1, h1', LN_line (by omega), fun p hp => hq _ _ (upd F p _) _ (r.new hp) (.lst upd_same ((h2.append h2').up (r.new (o := .lst (xs ++ ys)) hp).f0)) hs⟩)
  · obtain ⟨hl, hs⟩ := hs
    obtain ⟨p, xs, rfl, h1, h2⟩ := ia.tup
    obtain ⟨p', ys, rfl, h1', h2'⟩ := ib.tup
    have e1 := h2.length
    have e2 := h2'.length
    refine .inr (.inr (.inl ⟨_, _, _, _, rfl, rfl, r.sub.sqT h1, r.sub.sqT h1', LN_line (by omega), fun z => ?_, fun z1 z2 => ?_, fun z1 z2 p hp => ?_⟩))
    · subst z
      cases h2
      exact hq _ H F _ r (.tup h1' h2') hs
    · subst z2
      cases h2'
      rw [List.append_nil] at hs
      exact hq _ H F _ r (.tup h1 h2) hs
    · exact hq _ _ (upd F p _) _ (r.new hp) (.tup (.inl (.inl upd_same)) ((h2.append h2').up (r.new (o := .tup (xs ++ ys)) hp).f0)) hs
  · obtain ⟨hl, hs⟩ := hs
    exact .inr (.inr (.inr ⟨_, _, ia.str, ib.str, LN_line hl, hq _ H F _ r (.str _) hs⟩))
  · exact hs.elim
theorem de_add (ha : DB X g E m a fa) (hb : DB X g E m b fb) : DE X g E m (.BinOp a .Add b pos) (f2 sAdd fa fb) := de_2 (pe_op op_add4 ha hb) sem_add
/-- xs + ys, ours -/
def sCat : D → D → (D → Prop) → XD → Prop := fun a b q _ => match a, b with
  | .lst xs, .lst ys => xs.length + ys.length ≤ LN ∧ q (.lst (xs ++ ys))
  | _, _ => False
theorem sem_cat {K : PySem.W.Frag} : Sem2F K rCat sCat := by
  intro g E H F v w a b q x Q r ia ib hs hq hx
  unfold sCat at hs
  split at hs
  · obtain ⟨hl, hs⟩ := hs
    obtain ⟨p, xs, rfl, h1, h2⟩ := ia.lst r.sub
    obtain ⟨p', ys, rfl, h1', h2'⟩ := ib.lst r.sub
    have e1 := h2.length
    have e2 := h2'.length
    exact ⟨_, _, _, _, rfl, rfl, h1, h1', LN_line (by omega), fun p hp => hq p _ F _ _ (r.newO hp) hp upd_same (r.freeF hp) (h2.append h2') hs⟩
  · exact hs.elim
theorem df_cat (ha : DB X g E m a fa) (hb : DB X g E m b fb) : DF X g E m (.BinOp a .Add b pos) (f2 sCat fa fb) := df_2 (pe_op op_cat ha hb) sem_cat

/-! ### -, *, //, %, ** -/
theorem de_sub (ha : DB X g E m a fa) (hb : DB X g E m b fb) : DE X g E m (.BinOp a .Sub b pos) (f2 (sI0 fun i j => .int (i - j)) fa fb) := de_2 (pe_op op_sub ha hb) (sem_I0 fun i j _ => .int (i - j))
theorem op_mulO : OpR X (binaryOp .Mult) (rI IntMulOk fun i j => .int (i * j)) := opI fun _ _ _ _ _ _ _ hc q => PyProof.Rows.mul_int q hc
theorem de_mul (ha : DB X g E m a fa) (hb : DB X g E m b fb) : DE X g E m (.BinOp a .Mult b pos) (f2 (sI IntMulOk fun i j => .int (i * j)) fa fb) := de_2 (pe_op op_mulO ha hb) (sem_I fun i j _ => .int (i * j))
def DivOk (i j : Int) : Prop := j ≠ 0 ∧ Builtin.divisionGoesByPylong i j = false
theorem op_divO : OpR X (binaryOp .FloorDiv) (rI DivOk fun i j => .int (i.fdiv j)) := opI fun _ _ _ _ _ _ _ hc q => PyProof.Rows.floordiv_int hc.1 q (.inl hc.2)
theorem de_div (ha : DB X g E m a fa) (hb : DB X g E m b fb) : DE X g E m (.BinOp a .FloorDiv b pos) (f2 (sI DivOk fun i j => .int (i.fdiv j)) fa fb) := de_2 (pe_op op_divO ha hb) (sem_I fun i j _ => .int (i.fdiv j))
theorem de_mod (ha : DB X g E m a fa) (hb : DB X g E m b fb) : DE X g E m (.BinOp a .Mod b pos) (f2 (sI (fun _ j => j ≠ 0) fun i j => .int (i.fmod j)) fa fb) := de_2 (pe_op op_modN ha hb) (sem_I fun i j _ => .int (i.fmod j))
theorem de_pow (ha : DB X g E m a fa) (hb : DB X g E m b fb) : DE X g E m (.BinOp a .Pow b pos) (f2 (sI CPow fun i j => .int (i ^ j.toNat)) fa fb) := de_2 (pe_op op_pow ha hb) (sem_I fun i j _ => .int (i ^ j.toNat))
def sNeg : D → (D → Prop) → XD → Prop := fun a q _ => match a with | .int i => q (.int (-i)) | _ => False
theorem de_neg (ha : DB X g E m a fa) : DE X g E m (.UnaryOp .USub a pos) (f1 sNeg fa) := de_1 (pe_un un_neg ha) fun g E H F v a q x Q r ia hs hq hx => by
  unfold sNeg at hs
  split at hs
  · exact ⟨_, ia.int, hq _ H F _ r (.int _) hs⟩
  · exact hs.elim

/-! ### [x] * n, (x,) * n -/
def sRep : D → D → (D → Prop) → XD → Prop := fun a b q _ => match a, b with
  | .lst xs, .int k => xs.length * k.toNat ≤ LN ∧ -1000000 ≤ k ∧ k ≤ 1000000 ∧ q (.lst (List.replicate k.toNat xs).flatten)
  | _, _ => False
theorem IsAll.repF {K : PySem.W.Frag} {F : Hp} {xs : List V} {ds : List D} (h : IsAll K F xs ds) : ∀ n : Nat, IsAll K F (List.replicate n xs).flatten (List.replicate n ds).flatten
  | 0 => .nil
  | n + 1 => by
    rw [List.replicate_succ, List.replicate_succ, List.flatten_cons, List.flatten_cons]
    exact h.append (h.repF n)
theorem sem_rep {K : PySem.W.Frag} : Sem2F K rRep sRep := by
  intro g E H F v w a b q x Q r ia ib hs hq hx
  unfold sRep at hs
  split at hs
  · obtain ⟨hl, hk1, hk2, hs⟩ := hs
    obtain ⟨p, xs, rfl, h1, h2⟩ := ia.lst r.sub
    have e1 := h2.length
    exact ⟨_, _, _, rfl, ib.int, h1, by omega, by omega, LN_line (by rw [e1]; exact hl), fun p hp => hq p _ F _ _ (r.newO hp) hp upd_same (r.freeF hp) (h2.repF _) hs⟩
  · exact hs.elim
theorem df_rep (ha : DB X g E m a fa) (hb : DB X g E m b fb) : DF X g E m (.BinOp a .Mult b pos) (f2 sRep fa fb) := df_2 (pe_op op_rep ha hb) sem_rep

/-! ### comparisons -/
def sCmp (h : Int → Int → Bool) : D → D → (D → Prop) → XD → Prop := sI0 fun i j => .bl (h i j)
theorem sem_cmp {K : PySem.W.Frag} {h : Int → Int → Bool} : Sem2 K (rI0 fun i j => .bl (h i j)) (sCmp h) := sem_I0 fun i j _ => .bl (h i j)
def lt' (i j : Int) : Bool := decide (i < j)
def le' (i j : Int) : Bool := decide (i ≤ j)
def gt' (i j : Int) : Bool := decide (j < i)
def ge' (i j : Int) : Bool := decide (j ≤ i)
/-- one comparison's operator on data -/
def CmpD (X : Cx) (op : CmpOp) (sem : D → D → (D → Prop) → XD → Prop) : Prop := ∃ r, OpR X (compareOp op) r ∧ Sem2 X.K r sem
theorem cd_lt : CmpD X .Lt (sCmp lt') := ⟨_, op_lt, sem_cmp⟩
theorem cd_le : CmpD X .LtE (sCmp le') := ⟨_, op_le, sem_cmp⟩
theorem cd_gt : CmpD X .Gt (sCmp gt') := ⟨_, op_gt, sem_cmp⟩
theorem cd_ge : CmpD X .GtE (sCmp ge') := ⟨_, op_ge, sem_cmp⟩
/-- ==, neg: != -/
def sEq (neg : Bool) : D → D → (D → Prop) → XD → Prop := fun a b q _ => match a, b with
  | .int i, .int j => q (.bl (neg ^^ decide (i = j)))
  | .str i, .str j => q (.bl (neg ^^ decide (i = j)))
  | a, b => a.ok = true ∧ b.ok = true ∧ a.dep ≤ 64 ∧ b.dep ≤ 64 ∧ q (.bl (neg ^^ eqD a b))
theorem sem_eq {K : PySem.W.Frag} : Sem2 K (fun x y H Q => rEq x y H Q ∨ rEqD K x y H Q) (sEq false) := by
  intro g E H F v w a b q x Q r ia ib hs hq hx
  unfold sEq at hs
  split at hs
  · rename_i i j
    rw [ia.int, ib.int]
    refine .inl ⟨rfl, ?_⟩
    have e : decide (V.int i = V.int j) = (false ^^ decide (i = j)) := by rw [dec_int, Bool.false_xor, Bool.beq_eq_decide_eq]
    rw [e]
    exact hq _ H F _ r (.bl _) hs
  · rename_i i j
    rw [ia.str, ib.str]
    refine .inl ⟨rfl, ?_⟩
    have e : decide (V.str i = V.str j) = (false ^^ decide (i = j)) := by rw [dec_str, Bool.false_xor, Bool.beq_eq_decide_eq]
    rw [e]
    exact hq _ H F _ r (.bl _) hs
  · obtain ⟨o1, o2, d1, d2, hs⟩ := hs
    refine .inr ⟨_, _, ia.dp r.sub o1, ib.dp r.sub o2, D.shaped o1 d1, D.shaped o2 d2, ?_⟩
    rw [Bool.false_xor] at hs
    exact hq _ H F _ r (.bl _) hs
theorem sem_ne {K : PySem.W.Frag} : Sem2 K (fun x y H Q => rNe x y H Q ∨ rNeD K x y H Q) (sEq true) := by
  intro g E H F v w a b q x Q r ia ib hs hq hx
  unfold sEq at hs
  split at hs
  · rename_i i j
    rw [ia.int, ib.int]
    refine .inl ⟨rfl, ?_⟩
    have e : (!decide (V.int i = V.int j)) = (true ^^ decide (i = j)) := by rw [dec_int, Bool.true_xor, Bool.beq_eq_decide_eq]
    rw [e]
    exact hq _ H F _ r (.bl _) hs
  · rename_i i j
    rw [ia.str, ib.str]
    refine .inl ⟨rfl, ?_⟩
    have e : (!decide (V.str i = V.str j)) = (true ^^ decide (i = j)) := by rw [dec_str, Bool.true_xor, Bool.beq_eq_decide_eq]
    rw [e]
    exact hq _ H F _ r (.bl _) hs
  · obtain ⟨o1, o2, d1, d2, hs⟩ := hs
    refine .inr ⟨_, _, ia.dp r.sub o1, ib.dp r.sub o2, D.shaped o1 d1, D.shaped o2 d2, ?_⟩
    rw [Bool.true_xor] at hs
    exact hq _ H F _ r (.bl _) hs
theorem cd_eq (hu : X.A.units + 64 < cLine) : CmpD X .Eq (sEq false) := ⟨_, op_eq.or (op_eqD hu), sem_eq⟩
theorem cd_ne (hu : X.A.units + 64 < cLine) : CmpD X .NotEq (sEq true) := ⟨_, op_ne.or (op_neD hu), sem_ne⟩
/-- in, neg: not in; of a tuple or a list of data -/
def sIn (neg : Bool) : D → D → (D → Prop) → XD → Prop := fun a b q _ => match b with
  | .tup ys => a.ok = true ∧ D.oks ys = true ∧ a.dep ≤ 64 ∧ D.deps ys ≤ 63 ∧ q (.bl (neg ^^ ys.any fun y => eqD y a))
  | .lst ys => a.ok = true ∧ D.oks ys = true ∧ a.dep ≤ 64 ∧ D.deps ys ≤ 63 ∧ q (.bl (neg ^^ ys.any fun y => eqD y a))
  | _ => False
def rInDD (K : PySem.W.Frag) (neg : Bool) : R2 := fun x y H Q => ∃ d ds, Dp K H x d ∧ (Dp K H y (.tuple ds) ∨ Dp K H y (.list ds)) ∧ SeqAt.shaped d = true ∧ SeqAt.shaped (.list ds) = true ∧ SeqAt.shaped (.tuple ds) = true ∧ Q (.bl (neg ^^ ds.any fun y => PyData.eqv y d)) H
theorem op_inDD (hu : X.A.units + 65 < cLine) : OpR X (compareOp .In) (rInDD X.K false) := by
  intro pins s σ H x y v u Q I rx ry h
  obtain ⟨d, ds, hd, he, sd, se, st, q⟩ := h
  rw [Bool.false_xor] at q
  obtain ⟨as, r1⟩ := Dp.reads I d x v hd rx
  rcases he with he | he
  · obtain ⟨bs, r2⟩ := Dp.reads I (.tuple ds) y u he ry
    exact SeqAt.in_tuple_reads r2 r1 (SeqAt.canLay_of_shaped st) (SeqAt.canLay_of_shaped sd) (PyProof.Rows.room_in_shaped sd hu) ⟨.bl _, H, I, rfl, q⟩
  · obtain ⟨bs, r2⟩ := Dp.reads I (.list ds) y u he ry
    exact SeqAt.in_list_reads r2 r1 (SeqAt.canLay_of_shaped se) (SeqAt.canLay_of_shaped sd) (PyProof.Rows.room_in_shaped sd hu) ⟨.bl _, H, I, rfl, q⟩
theorem op_notInDD (hu : X.A.units + 65 < cLine) : OpR X (compareOp .NotIn) (rInDD X.K true) := by
  intro pins s σ H x y v u Q I rx ry h
  obtain ⟨d, ds, hd, he, sd, se, st, q⟩ := h
  rw [Bool.true_xor] at q
  obtain ⟨as, r1⟩ := Dp.reads I d x v hd rx
  rcases he with he | he
  · obtain ⟨bs, r2⟩ := Dp.reads I (.tuple ds) y u he ry
    exact SeqAt.notIn_tuple_reads r2 r1 (SeqAt.canLay_of_shaped st) (SeqAt.canLay_of_shaped sd) (PyProof.Rows.room_in_shaped sd hu) ⟨.bl _, H, I, rfl, q⟩
  · obtain ⟨bs, r2⟩ := Dp.reads I (.list ds) y u he ry
    exact SeqAt.notIn_list_reads r2 r1 (SeqAt.canLay_of_shaped se) (SeqAt.canLay_of_shaped sd) (PyProof.Rows.room_in_shaped sd hu) ⟨.bl _, H, I, rfl, q⟩
theorem D.pys_any (d : PyData) : ∀ ys : List D, (D.pys ys).any (fun y => PyData.eqv y d) = ys.any fun y => PyData.eqv y.py d
  | [] => rfl
  | y :: ys => by
    show (PyData.eqv y.py d || (D.pys ys).any fun y => PyData.eqv y d) = (PyData.eqv y.py d || ys.any fun y => PyData.eqv y.py d)
    rw [D.pys_any d ys]
theorem D.shapeds {ys : List D} (h : D.oks ys = true) (h2 : D.deps ys ≤ 63) : SeqAt.shaped (.list (D.pys ys)) = true ∧ SeqAt.shaped (.tuple (D.pys ys)) = true :=
  ⟨D.shaped (d := .lst ys) h (by show D.deps ys + 1 ≤ 64; omega), D.shaped (d := .tup ys) h (by show D.deps ys + 1 ≤ 64; omega)⟩
theorem sem_in {K : PySem.W.Frag} {neg : Bool} : Sem2 K (rInDD K neg) (sIn neg) := by
  intro g E H F v w a b q x Q r ia ib hs hq hx
  unfold sIn at hs
  split at hs
  · rename_i ys
    obtain ⟨o1, o2, d1, d2, hs⟩ := hs
    obtain ⟨s1, s2⟩ := D.shapeds o2 d2
    have i2 : Dp K H w (D.py (.tup ys)) := ib.dp r.sub o2
    refine ⟨_, D.pys ys, ia.dp r.sub o1, .inl i2, D.shaped o1 d1, s1, s2, ?_⟩
    rw [D.pys_any]
    exact hq _ H F _ r (.bl _) hs
  · rename_i ys
    obtain ⟨o1, o2, d1, d2, hs⟩ := hs
    obtain ⟨s1, s2⟩ := D.shapeds o2 d2
    have i2 : Dp K H w (D.py (.lst ys)) := ib.dp r.sub o2
    refine ⟨_, D.pys ys, ia.dp r.sub o1, .inr i2, D.shaped o1 d1, s1, s2, ?_⟩
    rw [D.pys_any]
    exact hq _ H F _ r (.bl _) hs
  · exact hs.elim
theorem cd_in (hu : X.A.units + 65 < cLine) : CmpD X .In (sIn false) := ⟨_, op_inDD hu, sem_in⟩
theorem cd_notIn (hu : X.A.units + 65 < cLine) : CmpD X .NotIn (sIn true) := ⟨_, op_notInDD hu, sem_in⟩
/-- is None, is not None -/
def D.isNon : D → Bool
  | .non => true
  | _ => false
def sIsN (neg : Bool) : D → D → (D → Prop) → XD → Prop := fun a b q _ => match b with
  | .non => q (.bl (neg ^^ a.isNon))
  | _ => False
theorem IsB.non {K : PySem.W.Frag} {g : Gd} {F H : Hp} {v : V} (h : IsB K g F H v .non) : v = .non := by
  rcases h with h | ⟨_, _, _, _, z, _⟩
  · cases h; rfl
  · cases z
theorem IsB.isNon {K : PySem.W.Frag} {g : Gd} {F H : Hp} {v : V} {a : D} (h : IsB K g F H v a) : decide (v = .non) = a.isNon := by
  rcases h with h | ⟨_, _, _, rfl, rfl, _⟩
  · cases h <;> rfl
  · rfl
theorem cd_isN : CmpD X .Is (sIsN false) := ⟨_, op_isN, fun g E H F v w a b q x Q r ia ib hs hq hx => by
  unfold sIsN at hs
  split at hs
  · rw [Bool.false_xor, ← ia.isNon] at hs
    exact ⟨ib.non, hq _ H F _ r (.bl _) hs⟩
  · exact hs.elim⟩
theorem cd_isNotN : CmpD X .IsNot (sIsN true) := ⟨_, op_notN, fun g E H F v w a b q x Q r ia ib hs hq hx => by
  unfold sIsN at hs
  split at hs
  · rw [Bool.true_xor, ← ia.isNon] at hs
    exact ⟨ib.non, hq _ H F _ r (.bl _) hs⟩
  · exact hs.elim⟩
theorem de_cmp {op : CmpOp} {sem : D → D → (D → Prop) → XD → Prop} (c : CmpD X op sem) (ha : DB X g E m a fa) (hb : DB X g E m b fb) (hm : behindInMarks op b = false := by first | exact nomark _ | rfl) :
    DE X g E m (.Compare a [op] [b] pos) (f2 sem fa fb) := by
  obtain ⟨r, c1, c2⟩ := c
  exact de_2 (pe_cmpR c1 ha hb hm) c2
/-! ### tests -/
/-- data as a test: a truth value -/
def fTest (f : FE) : FT := fun ρ q x => f ρ (fun d => match d with | .bl b => q b | _ => False) x
theorem dt_of {e : Expr} {f : FE} (h : PE X e (tE X.K g E m f)) (hp : ∀ t, PE X e t → PT X e (L2.tB t)) : DT X g E m e (fTest f) := PTimp (hp _ h) fun σ H Q ⟨H0, F0, F, ρ, q, x, R, hf, hq, hx⟩ =>
  ⟨H0, F0, F, ρ, _, x, R, hf, fun v H' F' d r i hd => by
    split at hd
    · rename_i b
      cases i
      exact ⟨b, rfl, hq b H' F' r hd⟩
    · exact hd.elim, hx⟩
/-- a call, a name: a truth value by itself -/
theorem dt_val {e : Expr} {f : FE} (h : DE X g E m e f) (he : ∀ whole, isTrue e X.env whole = (do let v ← whole; standAt e.pos; holding [v] (truthy v)) := by intro _; rfl) : DT X g E m e (fTest f) := dt_of h fun t ht => pt_val ht he
theorem dt_cmp {op : CmpOp} {sem : D → D → (D → Prop) → XD → Prop} (c : CmpD X op sem) (ha : DB X g E m a fa) (hb : DB X g E m b fb) (hm : behindInMarks op b = false := by first | exact nomark _ | rfl) :
    DT X g E m (.Compare a [op] [b] pos) (fTest (f2 sem fa fb)) := by
  obtain ⟨r, c1, c2⟩ := c
  refine PTimp (pt_cmpR c1 ha hb hm) fun σ H Q ⟨H0, F0, F, ρ, q, x, R, hf, hq, hx⟩ => ?_
  refine ⟨H0, F0, F, ρ, _, x, R, hf, fun v H1 F1 d r1 i1 hb => ?_, hx⟩
  refine ⟨H0, F0, F1, ρ, _, x, R.step r1, hb, fun w H2 F2 d2 r2 i2 hs2 => ?_, hx.step r1⟩
  refine c2 g E H2 F2 v w d d2 _ x _ ((R.step r1).step r2).fr.self (i1.up r2) i2 hs2 (fun u H' F' d' r3 i3 hd => ?_) ((hx.step r1).step r2)
  split at hd
  · rename_i b
    cases i3
    exact ⟨b, rfl, hq b H' F' (r1.trans (r2.trans r3)) hd⟩
  · exact hd.elim
def gNot (f : FT) : FT := fun ρ q x => f ρ (fun b => q (!b)) x
def gAnd (f f' : FT) : FT := fun ρ q x => f ρ (fun b => if b = true then f' ρ q x else q false) x
def gOr (f f' : FT) : FT := fun ρ q x => f ρ (fun b => if b = true then q true else f' ρ q x) x
variable {f f' : FT} {rest : List Expr}
theorem dt_not (h : DT X g E m a f) : DT X g E m (.UnaryOp .Not a pos) (gNot f) := PTimp (pt_not h) fun σ H Q ⟨H0, F0, F, ρ, q, x, R, hf, hq, hx⟩ =>
  ⟨H0, F0, F, ρ, _, x, R, hf, fun b H' F' r hb => hq _ H' F' r hb, hx⟩
theorem dw_and1 (h : DT X g E m a f) : DW X g E m (.BoolOp .And [a] pos) f := pw_and1 h
theorem dw_or1 (h : DT X g E m a f) : DW X g E m (.BoolOp .Or [a] pos) f := pw_or1 h
theorem dw_and (h : DT X g E m a f) (h' : DW X g E m (.BoolOp .And (b :: rest) pos) f') : DW X g E m (.BoolOp .And (a :: b :: rest) pos) (gAnd f f') := PWimp (pw_and h h') fun σ H Q ⟨H0, F0, F, ρ, q, x, R, hf, hq, hx⟩ =>
  ⟨H0, F0, F, ρ, _, x, R, hf, fun b H' F' r hb => by
    cases b with
    | true =>
      rw [if_pos rfl] at hb ⊢
      exact ⟨H0, F0, F', ρ, q, x, R.step r, hb, fun b H2 F2 r2 h2 => hq b H2 F2 (r.trans r2) h2, hx.step r⟩
    | false =>
      rw [if_neg Bool.false_ne_true] at hb ⊢
      exact hq _ H' F' r hb, hx⟩
theorem dw_or (h : DT X g E m a f) (h' : DW X g E m (.BoolOp .Or (b :: rest) pos) f') : DW X g E m (.BoolOp .Or (a :: b :: rest) pos) (gOr f f') := PWimp (pw_or h h') fun σ H Q ⟨H0, F0, F, ρ, q, x, R, hf, hq, hx⟩ =>
  ⟨H0, F0, F, ρ, _, x, R, hf, fun b H' F' r hb => by
    cases b with
    | false =>
      rw [if_neg Bool.false_ne_true] at hb ⊢
      exact ⟨H0, F0, F', ρ, q, x, R.step r, hb, fun b H2 F2 r2 h2 => hq b H2 F2 (r.trans r2) h2, hx.step r⟩
    | true =>
      rw [if_pos rfl] at hb ⊢
      exact hq _ H' F' r hb, hx⟩
theorem dw_pt {e : Expr} (h : DW X g E m e f) : DT X g E m e f := h.pt
/-- and, or, not as values, of truth values -/
def fBl (f : FT) : FE := fun ρ q x => f ρ (fun b => q (.bl b)) x
def hAnd (f f' : FE) : FE := fun ρ q x => f ρ (fun d => match d with | .bl b => if b = true then f' ρ q x else q (.bl false) | _ => False) x
def hOr (f f' : FE) : FE := fun ρ q x => f ρ (fun d => match d with | .bl b => if b = true then q (.bl true) else f' ρ q x | _ => False) x
def hNot (f : FE) : FE := fun ρ q x => f ρ (fun d => match d with | .bl b => q (.bl (!b)) | _ => False) x
theorem de_one {op : BoolOp} (h : DE X g E m a fa) : DE X g E m (.BoolOp op [a] pos) fa := pe_one h
theorem de_and (h : DE X g E m a fa) (h' : DE X g E m (.BoolOp .And (b :: rest) pos) fb) : DE X g E m (.BoolOp .And (a :: b :: rest) pos) (hAnd fa fb) := PEimp (pe_and h h') fun σ H Q ⟨H0, F0, F, ρ, q, x, R, hf, hq, hx⟩ =>
  ⟨H0, F0, F, ρ, _, x, R, hf, fun v H' F' d r i hd => by
    split at hd
    · rename_i b
      cases i
      refine ⟨b, rfl, ?_⟩
      cases b with
      | true =>
        rw [if_pos rfl] at hd ⊢
        exact ⟨H0, F0, F', ρ, q, x, R.step r, hd, fun v H2 F2 d r2 i2 h2 => hq v H2 F2 d (r.trans r2) i2 h2, hx.step r⟩
      | false =>
        rw [if_neg Bool.false_ne_true] at hd ⊢
        exact hq _ H' F' _ r (.bl _) hd
    · exact hd.elim, hx⟩
theorem de_or (h : DE X g E m a fa) (h' : DE X g E m (.BoolOp .Or (b :: rest) pos) fb) : DE X g E m (.BoolOp .Or (a :: b :: rest) pos) (hOr fa fb) := PEimp (pe_or h h') fun σ H Q ⟨H0, F0, F, ρ, q, x, R, hf, hq, hx⟩ =>
  ⟨H0, F0, F, ρ, _, x, R, hf, fun v H' F' d r i hd => by
    split at hd
    · rename_i b
      cases i
      refine ⟨b, rfl, ?_⟩
      cases b with
      | false =>
        rw [if_neg Bool.false_ne_true] at hd ⊢
        exact ⟨H0, F0, F', ρ, q, x, R.step r, hd, fun v H2 F2 d r2 i2 h2 => hq v H2 F2 d (r.trans r2) i2 h2, hx.step r⟩
      | true =>
        rw [if_pos rfl] at hd ⊢
        exact hq _ H' F' _ r (.bl _) hd
    · exact hd.elim, hx⟩
theorem de_not (h : DE X g E m a fa) : DE X g E m (.UnaryOp .Not a pos) (hNot fa) := PEimp (pe_not h) fun σ H Q ⟨H0, F0, F, ρ, q, x, R, hf, hq, hx⟩ =>
  ⟨H0, F0, F, ρ, _, x, R, hf, fun v H' F' d r i hd => by
    split at hd
    · cases i
      exact ⟨_, rfl, hq _ H' F' _ r (.bl _) hd⟩
    · exact hd.elim, hx⟩
/-- a if t else b -/
def fIf (t : FT) (fa fb : FE) : FE := fun ρ q x => t ρ (fun c => if c = true then fa ρ q x else fb ρ q x) x
theorem de_if {c : Expr} (hc : DT X g E m c f) (ha : DE X g E m a fa) (hb : DE X g E m b fb) : DE X g E m (.IfExp c a b pos) (fIf f fa fb) := PEimp (pe_ifExp hc ha hb) fun σ H Q ⟨H0, F0, F, ρ, q, x, R, hf, hq, hx⟩ =>
  ⟨H0, F0, F, ρ, _, x, R, hf, fun c H' F' r hd => by
    cases c with
    | true =>
      rw [if_pos rfl] at hd ⊢
      exact ⟨H0, F0, F', ρ, q, x, R.step r, hd, fun v H2 F2 d r2 i2 h2 => hq v H2 F2 d (r.trans r2) i2 h2, hx.step r⟩
    | false =>
      rw [if_neg Bool.false_ne_true] at hd ⊢
      exact ⟨H0, F0, F', ρ, q, x, R.step r, hd, fun v H2 F2 d r2 i2 h2 => hq v H2 F2 d (r.trans r2) i2 h2, hx.step r⟩, hx⟩

/-! ### arguments, displays -/
def fNil : FA := fun _ q _ => q []
def fCons (f : FE) (r : FA) : FA := fun ρ q x => f ρ (fun d => r ρ (fun ds => q (d :: ds)) x) x
variable {e : Expr} {es : List Expr} {fe : FE} {fs : FA}
theorem da_nil : DA X g E m [] fNil := PAimp pa_nil fun σ H Q ⟨H0, F0, F, ρ, q, x, R, hf, hq, hx⟩ => hq [] H F [] R.fr.self .nil hf
theorem da_cons (h : DE X g E m e fe) (hr : DA X g E m es fs) (hs : starEach (e :: es) X.env = (false, eval e X.env) :: starEach es X.env := by rfl) : DA X g E m (e :: es) (fCons fe fs) := PAimp (pa_cons h hr hs) fun σ H Q ⟨H0, F0, F, ρ, q, x, R, hf, hq, hx⟩ =>
  ⟨H0, F0, F, ρ, _, x, R, hf, fun v H1 F1 d r1 i1 hd => ⟨H0, F0, F1, ρ, _, x, R.step r1, hd, fun vs H2 F2 ds r2 i2 h2 => hq _ H2 F2 _ (r1.trans r2) (.cons (i1.up r2.f0) i2) h2, hx.step r1⟩, hx⟩
def fTup (f : FA) : FE := fun ρ q x => f ρ (fun ds => ds.length ≤ LN ∧ q (.tup ds)) x
def fLst (f : FA) : FE := fun ρ q x => f ρ (fun ds => ds.length ≤ LN ∧ q (.lst ds)) x
theorem de_tup {k : Nat} (h : DA X g E m es fs) : DE X g E m (.Tuple es k pos) (fTup fs) := PEimp (pe_tup h) fun σ H Q ⟨H0, F0, F, ρ, q, x, R, hf, hq, hx⟩ =>
  ⟨H0, F0, F, ρ, _, x, R, hf, fun vs H1 F1 ds r1 i1 hd => ⟨LN_line (by rw [i1.length]; exact hd.1), fun p hp => hq _ _ (upd F1 p (.tup vs)) _ (r1.trans ((R.step r1).fr.new hp)) (.tup (.inl (.inl upd_same)) (i1.up ((R.step r1).fr.new (o := .tup vs) hp).f0)) hd.2⟩, hx⟩
theorem df_lst (h : DA X g E m es fs) : DF X g E m (.List es pos) (fLst fs) := PEimp (pe_lst h) fun σ H Q ⟨H0, F0, F, ρ, q, x, R, hf, hq, hx⟩ =>
  ⟨H0, F0, F, ρ, _, x, R, hf, fun vs H1 F1 ds r1 i1 hd => ⟨LN_line (by rw [i1.length]; exact hd.1), fun p hp => hq p _ F1 _ _ (r1.trans ((R.step r1).fr.newO hp)) (r1.back hp) upd_same ((R.step r1).fr.freeF hp) i1 hd.2⟩, hx⟩

/-! ### subscripts -/
def sIx : D → D → (D → Prop) → XD → Prop := fun a b q _ => match a, b with
  | .tup xs, .int i => match atI xs i with | some d => q d | none => False
  | .lst xs, .int i => match atI xs i with | some d => q d | none => False
  | _, _ => False
theorem IsAll.at {K : PySem.W.Frag} {F : Hp} {vs : List V} {ds : List D} (h : IsAll K F vs ds) {i : Int} {d : D} (e : atI ds i = some d) : ∃ v, atI vs i = some v ∧ Is K F v d := by
  unfold atI at e ⊢
  rw [h.length]
  cases hi : ixN ds.length i with
  | none => rw [hi] at e; cases e
  | some j =>
    rw [hi] at e
    exact h.get (show ds[j]? = some d from e)
theorem IsB.lst' {K : PySem.W.Frag} {g : Gd} {F H : Hp} {v : V} {ds : List D} (s : Ex F H) (h : IsB K g F H v (.lst ds)) : ∃ a xs, v = .ref a ∧ SqL K H a xs ∧ IsAll K F xs ds := by
  obtain ⟨a, xs, h1, h2, h3⟩ := h.lst s
  exact ⟨a, xs, h1, .inl (.inl h2), h3⟩
theorem sem_ix {K : PySem.W.Frag} : Sem2 K (rIx K) sIx := by
  intro g E H F v w a b q x Q r ia ib hs hq hx
  unfold sIx at hs
  split at hs
  · split at hs
    · rename_i d e
      obtain ⟨p, ys, rfl, h1, h2⟩ := ia.tup
      obtain ⟨y, e1, e2⟩ := h2.at e
      exact .inr (.inl ⟨_, _, _, _, rfl, ib.int, r.sub.sqT h1, e1, hq _ H F _ r e2 hs⟩)
    · exact hs.elim
  · split at hs
    · rename_i d e
      obtain ⟨p, ys, rfl, h1, h2⟩ := ia.lst' r.sub
      obtain ⟨y, e1, e2⟩ := h2.at e
      exact .inl ⟨_, _, _, _, rfl, ib.int, h1, e1, hq _ H F _ r e2 hs⟩
    · exact hs.elim
  · exact hs.elim
theorem de_ix (ha : DB X g E m a fa) (hb : DB X g E m b fb) (hs : PlainIx b := by exact fun _ _ => rfl) : DE X g E m (.Subscript a b pos) (f2 sIx fa fb) := de_2 (pe_ix ix_seq ha hb hs) sem_ix
/-- a slice's part -/
abbrev FO := Ro → (Option Int → Prop) → XD → Prop
def tO' (K : PySem.W.Frag) (g : Gd) (E : XK) (m : List Nat) (f : FO) : TO := fun σ H Q => ∃ H0 F0 F ρ q x, Rel K g H0 F0 m σ H F ρ ∧ f ρ q x ∧
  (∀ o H' F', Fr g H F H' F' → q o → Q o H') ∧ XE K g H F x E
abbrev DO (X : Cx) (g : Gd) (E : XK) (m : List Nat) (e : Option Expr) (f : FO) : Prop := PO X e (tO' X.K g E m f)
theorem POimp {e : Option Expr} {t t' : TO} (h : PO X e t) (i : ∀ σ H Q, t' σ H Q → t σ H Q) : PO X e t' := ⟨fun pins s σ H Q I q => h.run pins s σ H Q I (i σ H Q q)⟩
def fNo : FO := fun _ q _ => q none
def fPart (f : FE) : FO := fun ρ q x => f ρ (fun d => match d with | .int i => q (some i) | _ => False) x
theorem do_none : DO X g E m none fNo := POimp po_none fun σ H Q ⟨H0, F0, F, ρ, q, x, R, hf, hq, hx⟩ => hq none H F R.fr.self hf
theorem do_some (h : DE X g E m e fe) : DO X g E m (some e) (fPart fe) := POimp (po_some h) fun σ H Q ⟨H0, F0, F, ρ, q, x, R, hf, hq, hx⟩ =>
  ⟨H0, F0, F, ρ, _, x, R, hf, fun v H' F' d r i hd => by
    split at hd
    · cases i
      exact ⟨_, rfl, hq _ H' F' r hd⟩
    · exact hd.elim, hx⟩
def cutD (xs : List D) (lo hi : Option Int) : List D := (xs.drop (HT.sIx xs.length 0 lo)).take (HT.sIx xs.length xs.length hi - HT.sIx xs.length 0 lo)
theorem IsAll.cut {K : PySem.W.Frag} {F : Hp} {vs : List V} {ds : List D} (h : IsAll K F vs ds) (lo hi : Option Int) : IsAll K F (cutV vs lo hi) (cutD ds lo hi) := by
  unfold cutV cutD
  rw [h.length]
  exact (h.drop _).take _
def fSl (f : FE) (l u : FO) : FE := fun ρ q x => f ρ (fun d => l ρ (fun lo => u ρ (fun hi => match d with
  | .tup xs => q (.tup (cutD xs lo hi))
  | .lst xs => q (.lst (cutD xs lo hi))
  | _ => False) x) x) x
def rSl2 (K : PySem.W.Frag) : V → Option Int → Option Int → Hp → VK → Prop := fun x lo hi H Q => rSlA K x lo hi H Q ∨ rSlL K x lo hi H Q
theorem cutD_all {xs : List D} {lo hi : Option Int} (h : HT.sIx xs.length 0 lo = 0 ∧ HT.sIx xs.length xs.length hi = xs.length) : cutD xs lo hi = xs := by
  unfold cutD
  rw [h.1, h.2, List.drop_zero, Nat.sub_zero, List.take_length]
theorem de_sl {lo hi : Option Expr} {fl fu : FO} {p2 : Pos} (h : DB X g E m e fe) (hl : DO X g E m lo fl) (hu : DO X g E m hi fu) : DE X g E m (.Subscript e (.Slice lo hi none p2) pos) (fSl fe fl fu) :=
  PEimp (pe_slice (sl_tupA.or sl_list) h hl hu) fun σ H Q ⟨H0, F0, F, ρ, q, x, R, hf, hq, hx⟩ => by
  refine ⟨H0, F0, F, ρ, _, x, R, hf, fun v H1 F1 d r1 i1 hb => ?_, hx⟩
  refine ⟨H0, F0, F1, ρ, _, x, R.step r1, hb, fun l H2 F2 r2 hs2 => ?_, hx.step r1⟩
  refine ⟨H0, F0, F2, ρ, _, x, (R.step r1).step r2, hs2, fun u H3 F3 r3 hs3 => ?_, (hx.step r1).step r2⟩
  have R3 := ((R.step r1).step r2).step r3
  have i3 := (i1.up r2).up r3
  split at hs3
  · rename_i ds
    obtain ⟨p, ys, rfl, h1, h2⟩ := i3.tup
    have hl := h2.length
    refine .inl ⟨_, _, rfl, R3.fr.sub.sqT h1, fun z => ?_, fun z p hp => ?_⟩
    · rw [hl] at z
      rw [cutD_all z] at hs3
      exact hq _ H3 F3 _ (r1.trans (r2.trans r3)) (.tup h1 h2) hs3
    · exact hq _ _ (upd F3 p _) _ (r1.trans (r2.trans (r3.trans (R3.fr.new hp)))) (.tup (.inl (.inl upd_same)) ((h2.cut l u).up (R3.fr.new (o := .tup (cutV ys l u)) hp).f0)) hs3
  · rename_i ds
    obtain ⟨p, ys, rfl, h1, h2⟩ := i3.lst' R3.fr.sub
    exact .inr ⟨_, _, rfl, h1, fun p hp => hq _ _ (upd F3 p _) _ (r1.trans (r2.trans (r3.trans (R3.fr.new hp)))) (.lst upd_same ((h2.cut l u).up (R3.fr.new (o := .lst (cutV ys l u)) hp).f0)) hs3⟩
  · exact hs3.elim
end
end DL

/-! DL4: built-in calls, what is walked, comprehensions, statements, loops. -/
namespace DL
open PySem L2

/-! ### built-in calls -/
def absI (i : Int) : Int := if i < 0 then -i else i
section
variable {X : Cx} {g : Gd} {E : XK} {m : List Nat} {a b : Expr} {fa fb : FE} {pos p : Pos}
def sLen : D → (D → Prop) → XD → Prop := fun a q _ => match a with
  | .tup xs => q (.int xs.length)
  | .lst xs => q (.int xs.length)
  | .str s => s.length ≤ LN ∧ q (.int s.length)
  | _ => False
theorem de_len (hg : Gl X "len") (hm : X.mg "len" = none) (ha : DB X g E m a fa) (h1 : starEach [a] X.env = (false, eval a X.env) :: starEach [] X.env := by rfl) : DE X g E m (.Call (.Name "len" p) [a] [] pos) (f1 sLen fa) :=
  de_1 (pe_callB call_len hg hm PySem.boot_len (pa_cons ha pa_nil h1) (he := h1)) fun g E H F v a q x Q r ia hs hq hx => by
  unfold sLen at hs
  split at hs
  · obtain ⟨p, ys, rfl, h1, h2⟩ := ia.tup
    rw [← h2.length] at hs
    exact ⟨_, _, rfl, .inr ⟨_, r.sub.sqT h1, rfl⟩, hq _ H F _ r (.int _) hs⟩
  · obtain ⟨p, ys, rfl, h1, h2⟩ := ia.lst' r.sub
    rw [← h2.length] at hs
    exact ⟨_, _, rfl, .inl ⟨_, h1, rfl⟩, hq _ H F _ r (.int _) hs⟩
  · rw [ia.str]
    exact ⟨_, _, rfl, ⟨LN_line hs.1, rfl⟩, hq _ H F _ r (.int _) hs.2⟩
  · exact hs.elim
def sAbs : D → (D → Prop) → XD → Prop := fun a q _ => match a with | .int i => q (.int (absI i)) | _ => False
theorem de_abs (hg : Gl X "abs") (hm : X.mg "abs" = none) (ha : DB X g E m a fa) (hb : bootBuiltins "abs" = some (.builtin "abs") := by decide +kernel) (h1 : starEach [a] X.env = (false, eval a X.env) :: starEach [] X.env := by rfl) : DE X g E m (.Call (.Name "abs" p) [a] [] pos) (f1 sAbs fa) :=
  de_1 (pe_callB call_abs hg hm hb (pa_cons ha pa_nil h1) (he := h1)) fun g E H F v a q x Q r ia hs hq hx => by
  unfold sAbs at hs
  split at hs
  · rw [ia.int]
    exact ⟨_, rfl, hq _ H F _ r (.int _) hs⟩
  · exact hs.elim
def sInt : D → (D → Prop) → XD → Prop := fun a q _ => match a with | .int i => q (.int i) | .bl b => q (.int (if b then 1 else 0)) | _ => False
theorem de_toInt (hg : Gl X "int") (hm : X.mg "int" = none) (ha : DB X g E m a fa) (hb : bootBuiltins "int" = some (.type "int") := by decide +kernel) (h1 : starEach [a] X.env = (false, eval a X.env) :: starEach [] X.env := by rfl) : DE X g E m (.Call (.Name "int" p) [a] [] pos) (f1 sInt fa) :=
  de_1 (pe_callTy call_int1 hg hm hb (pa_cons ha pa_nil h1) (he := h1)) fun g E H F v a q x Q r ia hs hq hx => by
  unfold sInt at hs
  split at hs
  · rw [ia.int]
    exact .inl ⟨_, rfl, hq _ H F _ r (.int _) hs⟩
  · rw [ia.bl]
    exact .inr ⟨_, rfl, hq _ H F _ r (.int _) hs⟩
  · exact hs.elim
theorem de_max2 (hc : X.calm = true) (hg : Gl X "max") (hm : X.mg "max" = none) (ha : DB X g E m a fa) (hb : DB X g E m b fb) (hbt : bootBuiltins "max" = some (.builtin "max") := by decide +kernel) (h1 : starEach [a, b] X.env = (false, eval a X.env) :: starEach [b] X.env := by rfl) (h2 : starEach [b] X.env = (false, eval b X.env) :: starEach [] X.env := by rfl) : DE X g E m (.Call (.Name "max" p) [a, b] [] pos) (f2 (sI0 fun i j => .int (if j > i then j else i)) fa fb) :=
  de_2 (r := fun v w H Q => ∃ i j, [v, w] = [V.int i, .int j] ∧ Q (.int (if j > i then j else i)) H) (pe_callB (call_max2 hc) hg hm hbt (pa_cons ha (pa_cons hb pa_nil h2) h1) (he := h1) (hpl := by rw [h2]; rfl)) fun g E H F v w a b q x Q r ia ib hs hq hx => by
  unfold sI0 at hs
  split at hs
  · rw [ia.int, ib.int]
    exact ⟨_, _, rfl, hq _ H F _ r (.int _) hs⟩
  · exact hs.elim
theorem de_min2 (hc : X.calm = true) (hg : Gl X "min") (hm : X.mg "min" = none) (ha : DB X g E m a fa) (hb : DB X g E m b fb) (hbt : bootBuiltins "min" = some (.builtin "min") := by decide +kernel) (h1 : starEach [a, b] X.env = (false, eval a X.env) :: starEach [b] X.env := by rfl) (h2 : starEach [b] X.env = (false, eval b X.env) :: starEach [] X.env := by rfl) : DE X g E m (.Call (.Name "min" p) [a, b] [] pos) (f2 (sI0 fun i j => .int (if j < i then j else i)) fa fb) :=
  de_2 (r := fun v w H Q => ∃ i j, [v, w] = [V.int i, .int j] ∧ Q (.int (if j < i then j else i)) H) (pe_callB (call_min2 hc) hg hm hbt (pa_cons ha (pa_cons hb pa_nil h2) h1) (he := h1) (hpl := by rw [h2]; rfl)) fun g E H F v w a b q x Q r ia ib hs hq hx => by
  unfold sI0 at hs
  split at hs
  · rw [ia.int, ib.int]
    exact ⟨_, _, rfl, hq _ H F _ r (.int _) hs⟩
  · exact hs.elim
def gcdI (i j : Int) : Int := ((Nat.gcd i.natAbs j.natAbs : Nat) : Int)
theorem de_gcd {nm : Str} (hg : Gl X nm) (hm : X.mg nm = some (.builtin "math.gcd")) (ha : DB X g E m a fa) (hb : DB X g E m b fb) (hdb : (nm == ("__debug__" : Str)) = false := by decide) (h1 : starEach [a, b] X.env = (false, eval a X.env) :: starEach [b] X.env := by rfl) (h2 : starEach [b] X.env = (false, eval b X.env) :: starEach [] X.env := by rfl) : DE X g E m (.Call (.Name nm p) [a, b] [] pos) (f2 (sI0 fun i j => .int (gcdI i j)) fa fb) :=
  de_2 (r := fun v w H Q => rGcd [v, w] H Q) (pe_callBfun cr_gcd hg hm (pa_cons ha (pa_cons hb pa_nil h2) h1) hdb h1 (by rw [h2]; rfl)) fun g E H F v w a b q x Q r ia ib hs hq hx => by
  unfold sI0 at hs
  split at hs
  · rw [ia.int, ib.int]
    exact ⟨_, _, rfl, hq _ H F _ r (.int _) hs⟩
  · exact hs.elim
/-- list(x), tuple(x) -/
def sList : D → (D → Prop) → XD → Prop := fun a q _ => match a with | .tup xs => q (.lst xs) | .lst xs => q (.lst xs) | _ => False
def sTuple : D → (D → Prop) → XD → Prop := fun a q _ => match a with | .tup xs => q (.tup xs) | .lst xs => q (.tup xs) | _ => False
theorem df_1 {e : Expr} {r : V → Hp → VK → Prop} {sem : D → (D → Prop) → XD → Prop} (h : PE X e (tUn r (tBo X.K g E m fa)))
    (hs : ∀ (g : Gd) (E : XK) (H F : Hp) (v : V) (a : D) (q : D → Prop) (x : XD) (Q : VK), Fr g H F H F → IsB X.K g F H v a → sem a q x → (∀ p H' F' vs xs, Fr g H F H' F' → H p = none → H' p = some (.lst vs) → F' p = none → IsAll X.K F' vs xs → q (.lst xs) → Q (.ref p) H') → XE X.K g H F x E → r v H Q) :
    DF X g E m e (f1 sem fa) := PEimp h fun σ H Q ⟨H0, F0, F, ρ, q, x, R, hf, hq, hx⟩ =>
  ⟨H0, F0, F, ρ, _, x, R, hf, fun v H1 F1 d r1 i1 hb => hs g E H1 F1 v d q x Q (R.step r1).fr.self i1 hb (fun p H' F' vs xs r3 n h1 h2 ha hd => hq p H' F' vs xs (r1.trans r3) (r1.back n) h1 h2 ha hd) (hx.step r1), hx⟩
theorem df_list (hg : Gl X "list") (hm : X.mg "list" = none) (ha : DB X g E m a fa) (hb : bootBuiltins "list" = some (.type "list") := by decide +kernel) (h1 : starEach [a] X.env = (false, eval a X.env) :: starEach [] X.env := by rfl) : DF X g E m (.Call (.Name "list" p) [a] [] pos) (f1 sList fa) :=
  df_1 (r := fun v H Q => ∃ p ys, [v] = [V.ref p] ∧ (SqL X.K H p ys ∨ SqT X.K H p ys) ∧ ∀ l, H l = none → Q (.ref l) (upd H l (.lst ys))) (pe_callTy call_list_of hg hm hb (pa_cons ha pa_nil h1) (he := h1)) fun g E H F v a q x Q r ia hs hq hx => by
  unfold sList at hs
  split at hs
  · obtain ⟨p, ys, rfl, h1, h2⟩ := ia.tup
    exact ⟨_, _, rfl, .inr (r.sub.sqT h1), fun l hl => hq l _ F _ _ (r.newO hl) hl upd_same (r.freeF hl) h2 hs⟩
  · obtain ⟨p, ys, rfl, h1, h2⟩ := ia.lst' r.sub
    exact ⟨_, _, rfl, .inl h1, fun l hl => hq l _ F _ _ (r.newO hl) hl upd_same (r.freeF hl) h2 hs⟩
  · exact hs.elim
theorem de_tuple (hg : Gl X "tuple") (hm : X.mg "tuple" = none) (ha : DB X g E m a fa) (hb : bootBuiltins "tuple" = some (.type "tuple") := by decide +kernel) (h1 : starEach [a] X.env = (false, eval a X.env) :: starEach [] X.env := by rfl) : DE X g E m (.Call (.Name "tuple" p) [a] [] pos) (f1 sTuple fa) :=
  de_1 (r := fun v H Q => ∃ p ys, [v] = [V.ref p] ∧ ((SqL X.K H p ys ∧ ∀ l, H l = none → Q (.ref l) (upd H l (.tup ys))) ∨ (SqT X.K H p ys ∧ Q (.ref p) H))) (pe_callTy call_tuple_of hg hm hb (pa_cons ha pa_nil h1) (he := h1)) fun g E H F v a q x Q r ia hs hq hx => by
  unfold sTuple at hs
  split at hs
  · obtain ⟨p, ys, rfl, h1, h2⟩ := ia.tup
    exact ⟨_, _, rfl, .inr ⟨r.sub.sqT h1, hq _ H F _ r (.tup h1 h2) hs⟩⟩
  · obtain ⟨p, ys, rfl, h1, h2⟩ := ia.lst' r.sub
    exact ⟨_, _, rfl, .inl ⟨h1, fun l hl => hq _ _ (upd F l _) _ (r.new hl) (.tup (.inl (.inl upd_same)) (h2.up (r.new (o := .tup ys) hl).f0)) hs⟩⟩
  · exact hs.elim
/-- isinstance(x, T), T a built-in type by its name -/
def D.ty : D → String
  | .non => "NoneType"
  | .bl _ => "bool"
  | .int _ => "int"
  | .str _ => "str"
  | .tup _ => "tuple"
  | .lst _ => "list"
  | .ref _ => ""
def isTy (n t : String) : Bool := n == t || (n == "int" && t == "bool")
def sIsi (n : String) : D → (D → Prop) → XD → Prop := fun a q _ => match a with | .ref _ => False | a => q (.bl (isTy n a.ty))
theorem IsB.tyx {K : PySem.W.Frag} {g : Gd} {F H : Hp} {v : V} {d : D} (s : Ex F H) (h : IsB K g F H v d) (hd : ∀ a, d ≠ .ref a) : TyX K H v (.type d.ty) := by
  rcases h with h | ⟨a, vs, xs, rfl, rfl, h1, _, h3⟩
  · cases h with
    | non => exact .base .non
    | bl b => exact .base (.bl b)
    | int i => exact .base (.int i)
    | str x => exact .base (.str x)
    | ref a => exact absurd rfl (hd a)
    | tup h1 h2 =>
      rcases h1 with (h1 | ⟨o, h1⟩) | ⟨o, its, n, h1, h2, _⟩
      · exact .base (.tup (s _ _ h1))
      · exact .fTuple (s _ _ h1)
      · exact .kTuple h1 h2
    | lst h1 h2 => exact .base (.lst (s _ _ h1))
  · exact .base (.lst h1)
theorem de_isi {n : Str} {T : String} {p2 : Pos} (hg : Gl X "isinstance") (hm : X.mg "isinstance" = none) (hg2 : Gl X n) (hm2 : X.mg n = none) (hb2 : bootBuiltins n = some (.type T)) (ha : DB X g E m a fa)
    (hk : ∀ t ∈ ["NoneType", "bool", "int", "str", "tuple", "list"], kitB t T = some (isTy T t)) (hb : bootBuiltins "isinstance" = some (.builtin "isinstance") := by decide +kernel) (hn2 : n ≠ "__name__" := by decide) (hd2 : (n == ("__debug__" : Str)) = false := by decide) (h1 : starEach [a, .Name n p2] X.env = (false, eval a X.env) :: starEach [.Name n p2] X.env := by rfl) :
    DE X g E m (.Call (.Name "isinstance" p) [a, .Name n p2] [] pos) (f1 (sIsi T) fa) :=
  de_1 (r := fun v H Q => rIsi X.K [v, .ty T] H Q) (pe_callB call_isi hg hm hb (pa_cons ha (pa_cons (pe_bltn (v := .ty T) hg2 hm2 hb2 rfl hn2 hd2) pa_nil) h1) (he := h1)) fun g E H F v a q x Q r ia hs hq hx => by
  have key : (∀ b, a ≠ .ref b) → q (.bl (isTy T a.ty)) → rIsi X.K [v, .ty T] H Q := fun nr hs => by
    have hm : a.ty ∈ ["NoneType", "bool", "int", "str", "tuple", "list"] := by
      cases a with
      | ref b => exact absurd rfl (nr b)
      | _ => simp [D.ty]
    exact ⟨_, _, _, _, _, rfl, .ty T, ia.tyx r.sub nr, kit_ty (hk _ hm), hq _ H F _ r (.bl _) hs⟩
  unfold sIsi at hs
  split at hs
  · exact hs.elim
  · rename_i nr
    exact key (fun b z => nr b z) hs
/-- repr(x) -/
def sRepr : D → (D → Prop) → XD → Prop := fun a q _ => a.ok = true ∧ a.shows = true ∧ a.dep ≤ 60 ∧ a.cost ≤ LN ∧ q (.str a.py.shown)
theorem call_reprD (hG : X.A.guards = some []) (hu : X.A.units + 64 < cLine) : CallR X (.builtin "repr") (fun xs H Q => ∃ (p : Addr) (d : PyData), xs = [.ref p] ∧ Dp X.K H (.ref p) d ∧ d.showable = true ∧ d.hasDict = false ∧ d.depth ≤ 60 ∧ d.shown.length ≤ sizeLine ∧ Q (.str d.shown) H) := by
  intro pins s σ H xs us Q I r h
  obtain ⟨p, d, rfl, hd, h1, h2, h3, h4, q⟩ := h
  obtain ⟨u, rfl, ru⟩ := vals1 r
  cases ru
  obtain ⟨as, hr⟩ := Dp.reads I d _ _ hd rfl
  exact repr_of_reads' hr h1 (PyData.noDict_hsm h2) hG (by omega) (fun b o e => e) (fun h' u tk kp => ⟨.str d.shown, H, I.kept (t' := tk) kp, ⟨u, rfl⟩, q⟩) h4
theorem de_repr (hG : X.A.guards = some []) (hu : X.A.units + 64 < cLine) (hg : Gl X "repr") (hm : X.mg "repr" = none) (ha : DB X g E m a fa) (hb : bootBuiltins "repr" = some (.builtin "repr") := by decide +kernel) (h1 : starEach [a] X.env = (false, eval a X.env) :: starEach [] X.env := by rfl) : DE X g E m (.Call (.Name "repr" p) [a] [] pos) (f1 (fun a q x => (match a with | .tup _ => True | .lst _ => True | _ => False) ∧ sRepr a q x) fa) :=
  de_1 (r := fun v H Q => ∃ (p : Addr) (d : PyData), [v] = [V.ref p] ∧ Dp X.K H (.ref p) d ∧ d.showable = true ∧ d.hasDict = false ∧ d.depth ≤ 60 ∧ d.shown.length ≤ sizeLine ∧ Q (.str d.shown) H) (pe_callB (call_reprD hG hu) hg hm hb (pa_cons ha pa_nil h1) (he := h1)) fun g E H F v a q x Q r ia hs hq hx => by
  obtain ⟨hs0, h1, h2, h3, h4, hs⟩ := hs
  have hp := ia.dp r.sub h1
  have fin : ∀ p, v = .ref p → ∃ (p : Addr) (d : PyData), [v] = [V.ref p] ∧ Dp X.K H (.ref p) d ∧ d.showable = true ∧ d.hasDict = false ∧ d.depth ≤ 60 ∧ d.shown.length ≤ sizeLine ∧ Q (.str d.shown) H := fun p e => by
    subst e
    exact ⟨p, a.py, rfl, hp, D.py_showable a h2, PyData.hasDict_of_canLay _ (D.py_lay a h1), by rw [D.py_dep]; exact h3, LN_line (Nat.le_trans (D.shown_len a h1 h2) h4), hq _ H F _ r (.str _) hs⟩
  split at hs0
  · obtain ⟨p, _, e, _⟩ := ia.tup
    exact fin p e
  · obtain ⟨p, _, e, _⟩ := ia.lst r.sub
    exact fin p e
  · exact hs0.elim
end

/-! ### what is walked -/
/-- J yields ds, as long as F stands -/
structure Yl (K : PySem.W.Frag) (J : It) (F : Hp) (ds : List D) : Prop where
  go : ∀ i H, Ex F H → i < ds.length → J.go i H
  yl : ∀ (g : Gd) (i : Nat) (d : D) (H F1 : Hp) (x : V) (H' : Hp), Fr g H F1 H F1 → Ex F F1 → ds[i]? = some d → J.yld i H x H' → ∃ F2, Fr g H F1 H' F2 ∧ Is K F2 x d
  stop : ∀ i H, Ex F H → ds.length ≤ i → J.stop i H
abbrev FI := Ro → (List D → Prop) → XD → Prop
def tI (K : PySem.W.Frag) (g : Gd) (E : XK) (m : List Nat) (f : FI) : TI := fun σ H R => ∃ H0 F0 F ρ q x, Rel K g H0 F0 m σ H F ρ ∧ f ρ q x ∧
  (∀ J H' F' ds, Fr g H F H' F' → Yl K J F' ds → q ds → R J H') ∧ XE K g H F x E
abbrev DI (X : Cx) (g : Gd) (E : XK) (m : List Nat) (tg iter : Expr) (f : FI) : Prop := PI X tg iter (tI X.K g E m f)
theorem PIimp {X : Cx} {tg e : Expr} {t t' : TI} (h : PI X tg e t) (i : ∀ σ H Q, t' σ H Q → t σ H Q) : PI X tg e t' := ⟨fun pins s σ H Q I q => h.run pins s σ H Q I (i σ H Q q)⟩
section
variable {X : Cx} {g : Gd} {E : XK} {m : List Nat} {a b tg : Expr} {fa fb : FE} {pos p : Pos}
theorem yl_list {K : PySem.W.Frag} {F : Hp} {a : Addr} {vs : List V} {ds : List D} (h : F a = some (.lst vs)) (ha : IsAll K F vs ds) : Yl K (Itl K a) F ds where
  go := fun i H e hi => by
    obtain ⟨v, e1, _⟩ := ha.get (List.getElem?_eq_getElem hi)
    exact ⟨vs, v, .inl (.inl (e _ _ h)), e1⟩
  yl := fun g i d H F1 x H' r e hd hy => by
    obtain ⟨rfl, hy⟩ := hy
    obtain ⟨v, e1, e2⟩ := ha.get hd
    have := hy vs (.inl (.inl (r.sub _ _ (e _ _ h))))
    rw [e1] at this
    cases this
    exact ⟨F1, r, e2.up e⟩
  stop := fun i H e hi => ⟨vs, .inl (.inl (e _ _ h)), by rw [ha.length]; exact hi⟩
theorem yl_tup {K : PySem.W.Frag} {F : Hp} {a : Addr} {vs : List V} {ds : List D} (h : SqT K F a vs) (ha : IsAll K F vs ds) : Yl K (Itt K a) F ds where
  go := fun i H e hi => by
    obtain ⟨v, e1, _⟩ := ha.get (List.getElem?_eq_getElem hi)
    exact ⟨vs, v, e.sqT h, e1⟩
  yl := fun g i d H F1 x H' r e hd hy => by
    obtain ⟨rfl, hy⟩ := hy
    obtain ⟨v, e1, e2⟩ := ha.get hd
    have := hy vs (r.sub.sqT (e.sqT h))
    rw [e1] at this
    cases this
    exact ⟨F1, r, e2.up e⟩
  stop := fun i H e hi => ⟨vs, e.sqT h, by rw [ha.length]; exact hi⟩
def rangeD (lo : Int) (n : Nat) : List D := (List.range n).map fun i => .int (lo + (i : Nat))
theorem yl_range {K : PySem.W.Frag} {F : Hp} {lo : Int} {n : Nat} : Yl K (Itr lo n) F (rangeD lo n) where
  go := fun i H e hi => by
    have : i < n := by simpa [rangeD] using hi
    exact this
  yl := fun g i d H F1 x H' r e hd hy => by
    obtain ⟨rfl, rfl⟩ := hy
    unfold rangeD at hd
    rw [List.getElem?_map] at hd
    cases hr : (List.range n)[i]? with
    | none => rw [hr] at hd; cases hd
    | some j =>
      rw [hr] at hd
      have hj : j = i := by
        obtain ⟨h1, h2⟩ := List.getElem?_eq_some_iff.mp hr
        rw [List.getElem_range] at h2
        exact h2.symm
      cases hd
      subst hj
      exact ⟨F1, r, .int _⟩
  stop := fun i H e hi => by
    have : n ≤ i := by simpa [rangeD] using hi
    exact this
/-- a list -/
def fItL (f : FE) : FI := fun ρ q x => f ρ (fun d => match d with | .lst xs => q xs | _ => False) x
theorem di_list (h : DE X g E m a fa) : DI X g E m tg a (fItL fa) := PIimp (pi_list h) fun σ H R ⟨H0, F0, F, ρ, q, x, Rl, hf, hq, hx⟩ =>
  ⟨H0, F0, F, ρ, _, x, Rl, hf, fun v H' F' d r i hd => by
    split at hd
    · cases i with
      | lst h1 h2 => exact ⟨_, rfl, ⟨_, .inl (.inl ((Rl.step r).fr.sub _ _ h1))⟩, hq _ H' F' _ r (yl_list h1 h2) hd⟩
    · exact hd.elim, hx⟩
/-- a tuple -/
def fItT (f : FE) : FI := fun ρ q x => f ρ (fun d => match d with | .tup xs => q xs | _ => False) x
theorem di_tup (h : DE X g E m a fa) : DI X g E m tg a (fItT fa) := PIimp (pi_tup h) fun σ H R ⟨H0, F0, F, ρ, q, x, Rl, hf, hq, hx⟩ =>
  ⟨H0, F0, F, ρ, _, x, Rl, hf, fun v H' F' d r i hd => by
    split at hd
    · cases i with
      | tup h1 h2 => exact ⟨_, rfl, ⟨_, (Rl.step r).fr.sub.sqT h1⟩, hq _ H' F' _ r (yl_tup h1 h2) hd⟩
    · exact hd.elim, hx⟩
def fRg1 (f : FE) : FI := fun ρ q x => f ρ (fun d => match d with | .int n => -(2 ^ 62) ≤ n ∧ n < 2 ^ 62 ∧ q (rangeD 0 n.toNat) | _ => False) x
theorem di_range1 (hg : Gl X "range") (hm : X.mg "range" = none) (h : DE X g E m a fa) (hs : starEach [a] X.env = [(false, eval a X.env)] := by rfl) : DI X g E m tg (.Call (.Name "range" p) [a] [] pos) (fRg1 fa) := PIimp (pi_range1 hg hm (pa_cons h pa_nil hs) hs) fun σ H R ⟨H0, F0, F, ρ, q, x, Rl, hf, hq, hx⟩ =>
  ⟨H0, F0, F, ρ, _, x, Rl, hf, fun v H' F' d r i hd => by
    split at hd
    · cases i
      exact ⟨_, rfl, hd.1, hd.2.1, hq _ H' F' _ r yl_range hd.2.2⟩
    · exact hd.elim, hx⟩
def fRg2 (f f' : FE) : FI := fun ρ q x => f ρ (fun d => f' ρ (fun e => match d, e with | .int lo, .int hi => (-(2 ^ 62) ≤ lo ∧ lo < 2 ^ 62 ∧ -(2 ^ 62) ≤ hi ∧ hi < 2 ^ 62) ∧ q (rangeD lo (hi - lo).toNat) | _, _ => False) x) x
theorem di_range2 (hg : Gl X "range") (hm : X.mg "range" = none) (h : DE X g E m a fa) (h' : DE X g E m b fb) (hs : starEach [a, b] X.env = [(false, eval a X.env), (false, eval b X.env)] := by rfl) (hs2 : starEach [b] X.env = [(false, eval b X.env)] := by rfl) :
    DI X g E m tg (.Call (.Name "range" p) [a, b] [] pos) (fRg2 fa fb) := PIimp (pi_range2 hg hm (pa_cons h (pa_cons h' pa_nil hs2) (by rw [hs, hs2])) hs hs2) fun σ H R ⟨H0, F0, F, ρ, q, x, Rl, hf, hq, hx⟩ =>
  ⟨H0, F0, F, ρ, _, x, Rl, hf, fun v H1 F1 d r1 i1 hd => ⟨H0, F0, F1, ρ, _, x, Rl.step r1, hd, fun w H2 F2 d2 r2 i2 hd => by
    split at hd
    · cases i1
      cases i2
      exact ⟨_, _, rfl, hd.1, hq _ H2 F2 _ (r1.trans r2) yl_range hd.2⟩
    · exact hd.elim, hx.step r1⟩, hx⟩
end

/-! ### targets -/
abbrev FG := D → Ro → (Ro → Prop) → Prop
def tG (K : PySem.W.Frag) (g : Gd) (m m' : List Nat) (f : FG) : TG := fun v σ H Q => ∃ H0 F0 F ρ d q, Rel K g H0 F0 m σ H F ρ ∧ Is K F v d ∧ f d ρ q ∧ ∀ σ' ρ', Rel K g H0 F0 m' σ' H F ρ' → q ρ' → Q σ' H
abbrev DG (X : Cx) (g : Gd) (m m' : List Nat) (e : Expr) (f : FG) : Prop := PG X e (tG X.K g m m' f)
theorem PGimp {X : Cx} {e : Expr} {t t' : TG} (h : PG X e t) (i : ∀ v σ H Q, t' v σ H Q → t v σ H Q) : PG X e t' := ⟨fun pins s σ H v u Q I r q => h.run pins s σ H v u Q I r (i v σ H Q q)⟩
def fName (i : Nat) : FG := fun d ρ q => i < ρ.length ∧ q (ρ.set i (some d))
abbrev del (m : List Nat) (i : Nat) : List Nat := m.filter (· ≠ i)
abbrev FGs := List D → Ro → (Ro → Prop) → Prop
def tGs (K : PySem.W.Frag) (g : Gd) (m m' : List Nat) (f : FGs) : TGs := fun vs σ H Q => ∃ H0 F0 F ρ ds q, Rel K g H0 F0 m σ H F ρ ∧ IsAll K F vs ds ∧ f ds ρ q ∧ ∀ σ' ρ', Rel K g H0 F0 m' σ' H F ρ' → q ρ' → Q σ' H
abbrev DGs (X : Cx) (g : Gd) (m m' : List Nat) (es : List Expr) (f : FGs) : Prop := PGs X es (tGs X.K g m m' f)
theorem PGsimp {X : Cx} {e : List Expr} {t t' : TGs} (h : PGs X e t) (i : ∀ v σ H Q, t' v σ H Q → t v σ H Q) : PGs X e t' := ⟨fun pins s σ H v u Q I r q => h.run pins s σ H v u Q I r (i v σ H Q q)⟩
def fGnil : FGs := fun ds ρ q => ds = [] ∧ q ρ
def fGcons (f : FG) (fs : FGs) : FGs := fun ds ρ q => match ds with | [] => False | d :: ds => f d ρ (fun ρ' => fs ds ρ' q)
def fGtup (n : Nat) (fs : FGs) : FG := fun d ρ q => match d with | .tup ds => ds.length = n ∧ fs ds ρ q | _ => False
section
variable {X : Cx} {g : Gd} {m m1 m2 : List Nat} {e : Expr} {es : List Expr} {f : FG} {fs : FGs} {pos : Pos}
theorem dg_name {i : Nat} {x : Str} (hN : X.N.Nodup) (hi : X.N[i]? = some x) (hx : Loc X.env.scope x) (hf : X.fn x = true ∨ X.env.scope.names.lookup x = some .local := by first | exact .inl rfl | exact .inr rfl | assumption) : DG X g m (del m i) (.Name x pos) (fName i) :=
  PGimp (pg_name hN hi hx hf) fun v σ H Q ⟨H0, F0, F, ρ, d, q, R, is, hf, hq⟩ => hq _ _ (R.set is hf.1) hf.2
theorem dgs_nil : DGs X g m m [] fGnil := PGsimp pgs_nil fun vs σ H Q ⟨H0, F0, F, ρ, ds, q, R, is, hf, hq⟩ => by
  obtain ⟨rfl, hf⟩ := hf
  cases is
  exact ⟨rfl, hq _ _ R hf⟩
theorem dgs_cons (h1 : DG X g m m1 e f) (h2 : DGs X g m1 m2 es fs) (hs : (assignEach (e :: es) X.env).map (·.2) = assign e X.env :: (assignEach es X.env).map (·.2) := by rfl) : DGs X g m m2 (e :: es) (fGcons f fs) :=
  PGsimp (pgs_cons h1 h2 hs) fun vs σ H Q ⟨H0, F0, F, ρ, ds, q, R, is, hf, hq⟩ => by
  unfold fGcons at hf
  split at hf
  · exact hf.elim
  · cases is with
    | cons i1 i2 => exact ⟨_, _, rfl, H0, F0, F, ρ, _, _, R, i1, hf, fun σ' ρ' R' hf' => ⟨H0, F0, F, ρ', _, q, R', i2, hf', fun σ2 ρ2 R2 h2 => hq _ _ R2 h2⟩⟩
theorem dg_tup {k n : Nat} (hc : X.calm = true) (h : DGs X g m m1 es fs) (hn : (assignEach es X.env).length = n := by rfl) (hst : (assignEach es X.env).findIdx? (·.1) = none := by rfl) : DG X g m m1 (.Tuple es k pos) (fGtup n fs) :=
  PGimp (pg_tup hc h hn hst) fun v σ H Q ⟨H0, F0, F, ρ, d, q, R, is, hf, hq⟩ => by
  unfold fGtup at hf
  split at hf
  · cases is with
    | tup h1 h2 => exact ⟨_, _, rfl, R.fr.sub.sqT h1, by rw [h2.length]; exact hf.1, H0, F0, F, ρ, _, q, R, h2, hf.2, hq⟩
  · exact hf.elim
end

/-! ### statements -/
structure DEnds where
  nx : Ro → Prop
  bk : Ro → Prop
  ct : Ro → Prop
  rt : D → Prop
  x : XD
abbrev FS := Ro → DEnds → Prop
/-- what a def hands back: data, or (k) a new list -/
def RetIs (K : PySem.W.Frag) (k : Bool) (H0 H F : Hp) (v : V) (d : D) : Prop :=
  match k with
  | false => Is K F v d
  | true => ∃ a vs xs, v = .ref a ∧ d = .lst xs ∧ H a = some (.lst vs) ∧ IsAll K F vs xs ∧ F a = none ∧ H0 a = none
def tS (K : PySem.W.Frag) (g : Gd) (E : XK) (k : Bool) (mb m m' : List Nat) (f : FS) : TS := fun D σ H => ∃ H0 F0 F ρ d, Rel K g H0 F0 m σ H F ρ ∧ f ρ d ∧
  (∀ σ' H' F' ρ', Rel K g H0 F0 m' σ' H' F' ρ' → Ex F F' → d.nx ρ' → D.nx σ' H') ∧ (∀ σ' H' F' ρ', Rel K g H0 F0 mb σ' H' F' ρ' → Ex F F' → d.bk ρ' → D.bk σ' H') ∧ (∀ σ' H' F' ρ', Rel K g H0 F0 mb σ' H' F' ρ' → Ex F F' → d.ct ρ' → D.ct σ' H') ∧
  (∀ v H' F' r, Fr g H0 F0 H' F' → RetIs K k H0 H' F' v r → d.rt r → D.rt v H') ∧ XE K g H0 F0 d.x E
abbrev DS (X : Cx) (g : Gd) (E : XK) (k : Bool) (mb m m' : List Nat) (st : Stmt) (f : FS) : Prop := PS X st (tS X.K g E k mb m m' f)
abbrev DSs (X : Cx) (g : Gd) (E : XK) (k : Bool) (mb m m' : List Nat) (st : List Stmt) (f : FS) : Prop := PSs X st (tS X.K g E k mb m m' f)
def fSkip : FS := fun ρ d => d.nx ρ
def fSeq (f f' : FS) : FS := fun ρ d => f ρ { d with nx := fun ρ' => f' ρ' d }
def fIfS (t : FT) (f f' : FS) : FS := fun ρ d => t ρ (fun b => if b = true then f ρ d else f' ρ d) d.x
def fRet (f : FE) : FS := fun ρ d => f ρ d.rt d.x
def fRetN : FS := fun _ d => d.rt .non
def fDrop (f : FE) : FS := fun ρ d => f ρ (fun _ => d.nx ρ) d.x
def fAsg (f : FE) (t : FG) : FS := fun ρ d => f ρ (fun a => t a ρ d.nx) d.x
def fBrk : FS := fun ρ d => d.bk ρ
def fCnt : FS := fun ρ d => d.ct ρ
def fNever : FS := fun _ _ => False
section
variable {X : Cx} {g : Gd} {E : XK} {k : Bool} {mb m m' m1 : List Nat} {st : Stmt} {sts ss : List Stmt} {f f' : FS} {e : Expr} {fe : FE} {ft : FT} {pos : Pos}
theorem dss_nil : DSs X g E k mb m m [] fSkip := PSsimp pss_nil fun D σ H ⟨H0, F0, F, ρ, d, R, hf, h1, h2, h3, h4, h5⟩ => h1 σ H F ρ R (Ex.refl _) hf
theorem dss_cons (h : DS X g E k mb m m1 st f) (h' : DSs X g E k mb m1 m' sts f') : DSs X g E k mb m m' (st :: sts) (fSeq f f') := PSsimp (pss_cons h h') fun D σ H ⟨H0, F0, F, ρ, d, R, hf, h1, h2, h3, h4, h5⟩ =>
  ⟨H0, F0, F, ρ, _, R, hf, fun σ' H' F' ρ' R' e hf' => ⟨H0, F0, F', ρ', d, R', hf', fun σ2 H2 F2 ρ2 R2 e2 => h1 σ2 H2 F2 ρ2 R2 (e.trans e2), fun σ2 H2 F2 ρ2 R2 e2 => h2 σ2 H2 F2 ρ2 R2 (e.trans e2), fun σ2 H2 F2 ρ2 R2 e2 => h3 σ2 H2 F2 ρ2 R2 (e.trans e2), h4, h5⟩, h2, h3, h4, h5⟩
theorem dss_one (h : DS X g E k mb m m' st f) : DSs X g E k mb m m' [st] f := pss_one h
theorem weakIn {t : List Nat} (h : m1.all (fun i => m.contains i) = true) {D : Ends} {σ : L2.St} {H : Hp} (q : tS X.K g E k mb m m' f D σ H) : tS X.K g E k mb m1 m' f D σ H := by
  obtain ⟨H0, F0, F, ρ, d, R, hf, h1, h2, h3, h4, h5⟩ := q
  obtain ⟨F', R', e⟩ := R.weak h
  exact ⟨H0, F0, F', ρ, d, R', hf, fun σ2 H2 F2 ρ2 R2 e2 => h1 σ2 H2 F2 ρ2 R2 (e.trans e2), fun σ2 H2 F2 ρ2 R2 e2 => h2 σ2 H2 F2 ρ2 R2 (e.trans e2), fun σ2 H2 F2 ρ2 R2 e2 => h3 σ2 H2 F2 ρ2 R2 (e.trans e2), h4, h5⟩
theorem weakOut (h : m'.all (fun i => m1.contains i) = true) {D : Ends} {σ : L2.St} {H : Hp} (q : tS X.K g E k mb m m' f D σ H) : tS X.K g E k mb m m1 f D σ H := by
  obtain ⟨H0, F0, F, ρ, d, R, hf, h1, h2, h3, h4, h5⟩ := q
  exact ⟨H0, F0, F, ρ, d, R, hf, fun σ' H' F' ρ' R' e hn => by
    obtain ⟨F2, R2, e2⟩ := R'.weak h
    exact h1 σ' H' F2 ρ' R2 (e.trans e2) hn, h2, h3, h4, h5⟩
/-- fewer lists ours ahead, behind -/
theorem dss_in (m1 : List Nat) (h : DSs X g E k mb m1 m' sts f) (hm : m1.all (fun i => m.contains i) = true := by rfl) : DSs X g E k mb m m' sts f := PSsimp h fun _ _ _ q => weakIn (t := []) hm q
theorem dss_out {m1 : List Nat} (h : DSs X g E k mb m m1 sts f) (hm : m'.all (fun i => m1.contains i) = true := by rfl) : DSs X g E k mb m m' sts f := PSsimp h fun _ _ _ q => weakOut hm q
theorem ds_in (m1 : List Nat) (h : DS X g E k mb m1 m' st f) (hm : m1.all (fun i => m.contains i) = true := by rfl) : DS X g E k mb m m' st f := PSimp h fun _ _ _ q => weakIn (t := []) hm q
theorem ds_out {m1 : List Nat} (h : DS X g E k mb m m1 st f) (hm : m'.all (fun i => m1.contains i) = true := by rfl) : DS X g E k mb m m' st f := PSimp h fun _ _ _ q => weakOut hm q
theorem ds_pass : DS X g E k mb m m (.Pass pos) fSkip := PSimp ps_pass fun D σ H ⟨H0, F0, F, ρ, d, R, hf, h1, h2, h3, h4, h5⟩ => h1 σ H F ρ R (Ex.refl _) hf
theorem ds_break : DS X g E k m m m' (.Break pos) fBrk := PSimp ps_break fun D σ H ⟨H0, F0, F, ρ, d, R, hf, h1, h2, h3, h4, h5⟩ => h2 σ H F ρ R (Ex.refl _) hf
theorem ds_continue : DS X g E k m m m' (.Continue pos) fCnt := PSimp ps_continue fun D σ H ⟨H0, F0, F, ρ, d, R, hf, h1, h2, h3, h4, h5⟩ => h3 σ H F ρ R (Ex.refl _) hf
theorem ds_never : DS X g E k mb m m' st fNever := PSimp ps_never fun D σ H ⟨H0, F0, F, ρ, d, R, hf, _⟩ => hf.elim
theorem dss_never : DSs X g E k mb m m' sts fNever := PSsimp pss_never fun D σ H ⟨H0, F0, F, ρ, d, R, hf, _⟩ => hf.elim
theorem ds_if {c : Expr} {ss' : List Stmt} (hc : DT X g E m c ft) (ha : DSs X g E k mb m m' sts f) (hb : DSs X g E k mb m m' ss' f') : DS X g E k mb m m' (.If c sts ss' pos) (fIfS ft f f') := PSimp (ps_if hc ha hb) fun D σ H ⟨H0, F0, F, ρ, d, R, hf, h1, h2, h3, h4, h5⟩ =>
  ⟨H0, F0, F, ρ, _, d.x, R, hf, fun b H' F' r hb => by
    have R' := R.step r
    have e := r.f0
    cases b with
    | true =>
      rw [if_pos rfl] at hb
      exact iteT ⟨H0, F0, F', ρ, d, R', hb, fun σ2 H2 F2 ρ2 R2 e2 => h1 σ2 H2 F2 ρ2 R2 (e.trans e2), fun σ2 H2 F2 ρ2 R2 e2 => h2 σ2 H2 F2 ρ2 R2 (e.trans e2), fun σ2 H2 F2 ρ2 R2 e2 => h3 σ2 H2 F2 ρ2 R2 (e.trans e2), h4, h5⟩
    | false =>
      rw [if_neg Bool.false_ne_true] at hb
      exact iteF ⟨H0, F0, F', ρ, d, R', hb, fun σ2 H2 F2 ρ2 R2 e2 => h1 σ2 H2 F2 ρ2 R2 (e.trans e2), fun σ2 H2 F2 ρ2 R2 e2 => h2 σ2 H2 F2 ρ2 R2 (e.trans e2), fun σ2 H2 F2 ρ2 R2 e2 => h3 σ2 H2 F2 ρ2 R2 (e.trans e2), h4, h5⟩, h5.step R.fr⟩
theorem ds_ret (h : DE X g E m e fe) : DS X g E false mb m m' (.Return (some e) pos) (fRet fe) := PSimp (ps_ret h) fun D σ H ⟨H0, F0, F, ρ, d, R, hf, h1, h2, h3, h4, h5⟩ =>
  ⟨H0, F0, F, ρ, _, d.x, R, hf, fun v H' F' r q i hd => h4 v H' F' r (R.fr.trans q) i hd, h5.step R.fr⟩
/-- a new list handed back -/
theorem ds_retF (h : DF X g E m e fe) : DS X g E true mb m m' (.Return (some e) pos) (fRet fe) := PSimp (ps_ret h) fun D σ H ⟨H0, F0, F, ρ, d, R, hf, h1, h2, h3, h4, h5⟩ =>
  ⟨H0, F0, F, ρ, _, d.x, R, hf, fun p H' F' vs xs q n e1 e2 ha hd => h4 _ H' F' _ (R.fr.trans q) ⟨p, vs, xs, rfl, rfl, e1, ha, e2, R.fr.back n⟩ hd, h5.step R.fr⟩
/-- a list of ours handed back -/
theorem ds_retO {i : Nat} (h : PE X e (tVar i)) (hm : m.contains i = true := by rfl) : DS X g E true mb m m' (.Return (some e) pos) (fRet (fVar i)) := PSimp (ps_ret h) fun D σ H ⟨H0, F0, F, ρ, d, R, hf, h1, h2, h3, h4, h5⟩ => by
  obtain ⟨oa, q1, _⟩ := R.own
  obtain ⟨vs, xs, e1, e2, e3, e4, e5, e6⟩ := q1 i (by simpa using hm)
  have hf' : fVar i ρ d.rt d.x := hf
  unfold fVar at hf'
  rw [e2] at hf'
  exact ⟨_, e1, h4 _ H F _ R.fr ⟨_, vs, xs, rfl, rfl, e3, e4, e5, e6⟩ hf'⟩
theorem ds_retN : DS X g E false mb m m' (.Return none pos) fRetN := PSimp ps_retN fun D σ H ⟨H0, F0, F, ρ, d, R, hf, h1, h2, h3, h4, h5⟩ => h4 _ H F _ R.fr Is.non hf
theorem ds_expr (h : DE X g E m e fe) (hs : swapsWith e none pos.line X.env = pure false := by rfl) : DS X g E k mb m m (.Expr e pos) (fDrop fe) := PSimp (ps_expr h hs) fun D σ H ⟨H0, F0, F, ρ, d, R, hf, h1, h2, h3, h4, h5⟩ =>
  ⟨H0, F0, F, ρ, _, d.x, R, hf, fun v H' F' r q i hd => h1 σ H' F' ρ (R.step q) q.f0 hd, h5.step R.fr⟩
/-- target = e -/
theorem ds_asg {tg : Expr} {tf : FG} (he : DE X g E m e fe) (hg : DG X g m m' tg tf) (hs : swapsWithSole [tg] e pos.line X.env = pure false := by rfl) (hw : swappedStores [tg] e X.env = pure none := by rfl)
    (h1 : (assignEach [tg] X.env).map (·.2) = [assign tg X.env] := by rfl) : DS X g E k mb m m' (.Assign [tg] e pos) (fAsg fe tf) := PSimp (ps_asg he hg hs hw h1) fun D σ H ⟨H0, F0, F, ρ, d, R, hf, h1, h2, h3, h4, h5⟩ =>
  ⟨H0, F0, F, ρ, _, d.x, R, hf, fun v H' F' r q i hd => ⟨H0, F0, F', ρ, r, d.nx, R.step q, i, hd, fun σ' ρ' R' hn => h1 σ' H' F' ρ' R' q.f0 hn⟩, h5.step R.fr⟩
theorem ds_set {i : Nat} {x : Str} {pos' : Pos} (hN : X.N.Nodup) (hi : X.N[i]? = some x) (hx : Loc X.env.scope x) (he : DE X g E m e fe) (hs : swapsWith e (some (.Name x pos')) pos.line X.env = pure false := by rfl) (hf : X.fn x = true ∨ X.env.scope.names.lookup x = some .local := by first | exact .inl rfl | exact .inr rfl | assumption) :
    DS X g E k mb m (del m i) (.Assign [.Name x pos'] e pos) (fAsg fe (fName i)) := PSimp (ps_set hN hi hx he hs hf) fun D σ H ⟨H0, F0, F, ρ, d, R, hf, h1, h2, h3, h4, h5⟩ =>
  ⟨H0, F0, F, ρ, _, d.x, R, hf, fun v H' F' r q i hd => h1 _ H' F' _ ((R.step q).set i hd.1) q.f0 hd.2, h5.step R.fr⟩
/-- name = a new list, ours -/
theorem ds_setF {i : Nat} {x : Str} {pos' : Pos} (hN : X.N.Nodup) (hi : X.N[i]? = some x) (hx : Loc X.env.scope x) (he : DF X g E m e fe) (hs : swapsWith e (some (.Name x pos')) pos.line X.env = pure false := by rfl) (hf : X.fn x = true ∨ X.env.scope.names.lookup x = some .local := by first | exact .inl rfl | exact .inr rfl | assumption) :
    DS X g E k mb m (i :: del m i) (.Assign [.Name x pos'] e pos) (fAsg fe (fName i)) := PSimp (ps_set hN hi hx he hs hf) fun D σ H ⟨H0, F0, F, ρ, d, R, hf, h1, h2, h3, h4, h5⟩ =>
  ⟨H0, F0, F, ρ, _, d.x, R, hf, fun p H' F' vs xs q n e1 e2 ha hd => h1 _ H' F' _ ((R.step q).setO hd.1 e1 e2 (R.fr.back n) ha fun j v ej hj z => by
    subst z
    obtain ⟨oa, q1, _⟩ := R.own
    obtain ⟨vs', xs', e1', _, e3', _⟩ := q1 j hj
    rw [ej] at e1'
    cases e1'
    rw [n] at e3'
    cases e3') q.f0 hd.2, h5.step R.fr⟩
end

/-! ### loops -/
/-- the turns over the items -/
def forL (t : FG) (b : FS) (d : DEnds) : List D → Ro → Prop
  | [], ρ => d.nx ρ
  | a :: r, ρ => t a ρ fun ρ1 => b ρ1 { d with nx := fun ρ2 => forL t b d r ρ2, ct := fun ρ2 => forL t b d r ρ2, bk := d.nx }
def fFor (i : FI) (t : FG) (b : FS) : FS := fun ρ d => i ρ (fun ds => forL t b d ds ρ) d.x
section
variable {X : Cx} {g : Gd} {E : XK} {k : Bool} {mb m mt : List Nat} {body : List Stmt} {b : FS} {iter tg : Expr} {fi : FI} {t : FG} {pos : Pos}
theorem ds_for (hp : PassesOwn (model X.prog X.w) X.A X.env X.xe) (hc : X.calm = true) (hi : DI X g E m tg iter fi) (hg : DG X g m mt tg t) (hb : DSs X g E k m mt m body b) (hs : ∀ x, foldedSetIterable iter X.env x = pure x := by intro _; rfl) :
    DS X g E k mb m m (.For tg iter body [] pos) (fFor fi t b) := PSimp (ps_for hp hc hi hg hb hs) fun D σ H ⟨H0, F0, F, ρ, d, R, hf, h1, h2, h3, h4, h5⟩ => by
  refine ⟨H0, F0, F, ρ, _, d.x, R, hf, fun J H1 F1 ds r1 y hd => ?_, h5.step R.fr⟩
  refine ⟨fun i mm σ' H' => mm = ds.length - i ∧ i ≤ ds.length ∧ ∃ F' ρ', Rel X.K g H0 F0 m σ' H' F' ρ' ∧ Ex F1 F' ∧ forL t b d (ds.drop i) ρ', ⟨_, rfl, Nat.zero_le _, F1, ρ, R.step r1, Ex.refl _, hd⟩, ?_⟩
  rintro i mm σ' H' ⟨rfl, hi, F', ρ', R', ex, hl⟩
  by_cases hlt : i < ds.length
  · refine .inr ⟨y.go i H' (ex.trans R'.fr.sub) hlt, fun σ2 H2 => ∃ F2 ρ2, Rel X.K g H0 F0 m σ2 H2 F2 ρ2 ∧ Ex F1 F2 ∧ forL t b d (ds.drop (i + 1)) ρ2, fun σ2 H2 ⟨F2, ρ2, R2, ex2, hl2⟩ => ⟨ds.length - (i + 1), by omega, rfl, hlt, F2, ρ2, R2, ex2, hl2⟩, fun x H2 hy => ?_⟩
    obtain ⟨F2, r2, is2⟩ := y.yl g i ds[i] H' F' x H2 R'.fr.self ex (List.getElem?_eq_getElem hlt) hy
    rw [List.drop_eq_getElem_cons hlt] at hl
    have R2 := R'.step r2
    refine ⟨H0, F0, F2, ρ', ds[i], _, R2, is2, hl, fun σ3 ρ3 R3 hb3 => ?_⟩
    have ex2 : Ex F1 F2 := ex.trans r2.f0
    refine ⟨H0, F0, F2, ρ3, _, R3, hb3, fun σ4 H4 F4 ρ4 R4 e4 n4 => ⟨F4, ρ4, R4, ex2.trans e4, n4⟩, fun σ4 H4 F4 ρ4 R4 e4 n4 => h1 σ4 H4 F4 ρ4 R4 (r1.f0.trans (ex2.trans e4)) n4, fun σ4 H4 F4 ρ4 R4 e4 n4 => ⟨F4, ρ4, R4, ex2.trans e4, n4⟩, h4, h5⟩
  · have e : i = ds.length := by omega
    subst e
    rw [List.drop_length] at hl
    exact .inl ⟨y.stop _ H' (ex.trans R'.fr.sub) (Nat.le_refl _), h1 σ' H' F' ρ' R' (r1.f0.trans ex) hl⟩
end
end DL

/-! DL5: what a def promises over data; its body; its calls. -/
namespace DL
open PySem PySem.Spec PyProof.Rows L2
section
variable {P : Program} {w : World} {K : PySem.W.Frag} {mg : Str → Option Value} {base : Heap} {CX : CXT} {f : Addr} {fd : FuncData} {ps : List Str} {sp : Sp}
/-- as FnOk, where nothing is being shown (repr) around the call -/
structure FnG (P : Program) (w : World) (K : PySem.W.Frag) (mg : Str → Option Value) (base : Heap) (CX : CXT) (k : Nat) (f : Addr) (fd : FuncData) (ps : List Str) (sp : Sp) : Prop where
  len : ∀ vs H Q E, sp vs H Q E → vs.length = ps.length
  run : ∀ (A : Around) (outer : List Env) (s : Shared) (H : Hp) (args : Args) (us : List Value) (vs : List V) (Q : VK) (E : XK), Room k A → A.guards = some [] → Env0 P w K mg base A outer s H → BindsTo s fd args (ps.zip us) → Vals vs us → sp vs H Q E →
    codeAny (model P w) A (.call (.ref f) args) (CR CX outer P w H s Q E) s
theorem FnG.mono {j k : Nat} (F : FnG P w K mg base CX j f fd ps sp) (h : j ≤ k) : FnG P w K mg base CX k f fd ps sp := ⟨F.len, fun A outer s H args us vs Q E hr => F.run A outer s H args us vs Q E (hr.mono h)⟩
theorem deeper_guards {A : Around} {env : Env} (h : A.guards = some []) : (A.deeper env).guards = some [] := h
/-- every parameter is a local name or a cell that is laid -/
theorem par_laid {ps N : List Str} {sc : Scope} (S : FnScope N ps sc) (n : Nat) (us : List Value) {y : Str × Value} (h : y ∈ ps.zip us) :
    sc.names.lookup y.1 = some .local ∨ (sc.names.lookup y.1 = some .cell ∧ ((cellsFrom n sc.names []).lookup y.1).isSome = true) :=
  (S.par y.1 (List.of_mem_zip (a := y.1) (b := y.2) h).1).imp id fun c => ⟨c, PySem.W.cellsFrom_some _ _ _ (.inl c)⟩
def flowV : Flow → Value
  | .ret v => v
  | _ => .none
/-- a body's end is the def's end -/
theorem flow_end {P : Program} {w : World} {X : Cx} {outer : List Env} {s : Shared} {H : Hp} {Q : VK} (h0 : X.s_0 = s) (hH : X.H_0 = H) (ho : X.outer = outer) (hP : X.prog = P) (hw : X.w = w) (hx : X.ex = []) {fl : Flow} {s' : Shared}
    (h : SP X [] { nx := fun _ H' => Q .non H', rt := Q } fl s') : CE outer P w H s Q (flowV fl) s' := by
  subst h0 hH ho hP hw
  have give : ∀ {τ : L2.St} {J : Hp} {v : V} {u : Value}, Inv X [] τ J s' → RelV v u → Q v J → CE X.outer X.prog X.w X.H_0 X.s_0 Q u s' := fun {_ J v _} I e q => by
    have hu := I.base
    rw [hx] at hu
    exact ⟨v, J, I.os, I.bare, hu, I.hok, e, q⟩
  match fl, h with
  | .ret _, ⟨_, _, _, I, e, q⟩ => exact give I e q
  | .next, ⟨_, _, I, q⟩ => exact give (v := .non) (u := .none) I rfl q
  | .brk, ⟨_, _, _, q⟩ => exact q.elim
  | .cont, ⟨_, _, _, q⟩ => exact q.elim
theorem fnG_of {k : Nat} {name qual : Str} {params : Arguments} {body : List Stmt} {scope : Scope} {dV kV doc pm cdv ct oc : Value} {an od : Option Addr}
    {osl : Array (Option Value)} {N : List Str} (here : K.lookup f = some ⟨oc, od, .func (PySem.W.fnOf name qual params body scope dV kV doc pm an cdv ct), osl⟩) (code : PySem.W.codeIn K cdv qual = true) (S : FnScope N ps scope)
    (len : ∀ vs H Q E, sp vs H Q E → vs.length = ps.length)
    (walk : ∀ (A : Around) (outer : List Env) (s : Shared) (H : Hp) (vs : List V) (Q : VK) (E : XK), Room k (A.deeper (envOfC qual scope s.heap.objs.size f cdv)) → (A.deeper (envOfC qual scope s.heap.objs.size f cdv)).guards = some [] → sp vs H Q E →
      ∃ t, PSs (cxOf CX P w K mg base N qual scope f cdv A outer s H E) body t ∧ t { nx := fun _ H' => Q .non H', rt := Q } (L2.start N vs) H) :
    FnG P w K mg base CX (k + 1) f (PySem.W.fnOf name qual params body scope dV kV doc pm an cdv ct) ps sp where
  len := len
  run A outer s H args us vs Q E room quiet env0 bind rel want := by
    have std : ∀ b o, base.get? b = some o → s.heap.get? b = some o := fun b o z => (env0.bs b o z).1
    have kin := env0.mod.kin.keeps std
    obtain ⟨t, der, sat⟩ := walk A outer s H vs Q E (room.deeper _) (deeper_guards quiet) want
    apply codeAny_call_function room.depth (kin _ _ here) rfl S.co S.gen rfl (PySem.W.codeRec_of kin code)
    apply bind
    apply wpAny_newFunctionEnv_cells S.kind (fun y hy => par_laid S _ us hy)
    rintro _ rfl s1 laid
    refine ⟨(env0.mod.nolimit.keeps std).keeps laid.toInCall.keep, codeAny_func ?_⟩
    exact wpAny_mono (der.run [] s1 _ H _ (inv_start S room.hd env0 (len _ _ _ _ want) rel laid) sat) (fun fl s' z => by
      have q := flow_end (outer := outer) (P := P) (w := w) (H := H) (s := s) rfl rfl rfl rfl rfl rfl z
      cases fl <;> exact q) fun _ _ z => z
end
/-- nothing leaves -/
theorem passN {X : Cx} {E : XK} : Passes CX0 X E := fun _ _ _ _ _ _ _ h => h.elim
section
variable {X : Cx} {CX : CXT} {k : Nat} {f : Addr} {fd : FuncData} {ps : List Str} {sp : Sp} {dvs : List V} {ds : List Value} {E : XK} {x : Str} {p pos : Pos} {e : Expr} {es : List Expr} {t tk : TA}
theorem run_fnG {pins : List (Addr × Obj)} {σ : L2.St} {H : Hp} {s : Shared} {Q : VK} {us ws : List Value} {vs : List V} {args : Args} (F : FnG X.prog X.w X.K X.mg X.base CX k f fd ps sp) (hr : Room k X.A) (hG : X.A.guards = some []) (hx : Passes CX X E)
    (I : Inv X pins σ H s) (hb : BindsTo s fd args (ps.zip us)) (r : Vals vs us) (h : sp vs H Q E) : codeAny (model X.prog X.w) X.A (.call (.ref f) args) (fun r s' => match r with | .ok (.ret u) => EP X pins σ Q u s' | .ok _ => False | .error e => X.xe e s') s := by
  refine codeAny_mono (F.run X.A X.stack s H args us vs Q E hr hG I.env0 hb r h) fun r s' hq => ?_
  cases r with
  | error e => exact hx pins σ H s e s' I hq
  | ok fl =>
    cases fl with
    | ret u => exact I.after hq
    | next => exact False.elim hq
    | brk => exact False.elim hq
    | cont => exact False.elim hq
theorem call_fin {pins : List (Addr × Obj)} {σ : L2.St} {s : Shared} {Q : VK} {us : List Value} {kw : List (Str × Value)} (h : codeAny (model X.prog X.w) X.A (.call (.ref f) ⟨us, kw⟩) (fun r s' => match r with | .ok (.ret u) => EP X pins σ Q u s' | .ok _ => False | .error e => X.xe e s') s) :
    wpAny (model X.prog X.w) X.A (call (.ref f) us kw) (EP X pins σ Q) X.xe s := by
  refine wpAny_call (codeAny_mono h fun r s' hq => ?_)
  cases r with
  | error e => exact hq
  | ok fl =>
    cases fl with
    | ret u => exact hq
    | next => exact hq
    | brk => exact hq
    | cont => exact hq
theorem pe_callG (F : FnG X.prog X.w X.K X.mg X.base CX k f fd ps sp) (hr : Room k X.A) (hG : X.A.guards = some []) (hg : Gl X x) (hm : X.mg x = some (.ref f)) (hk : PySem.W.keepIn X.K (.ref f) = true) (hb : Binds X.K fd ps ds) (hd : Vals dvs ds) (hx : Passes CX X E)
    (ha : PA X (e :: es) t) (hdb : (x == ("__debug__" : Str)) = false := by decide) (he : starEach (e :: es) X.env = (false, eval e X.env) :: starEach es X.env := by rfl) (hpl : (backTo pos (starEach es X.env)).any (·.1) = false := by rfl) :
    PE X (.Call (.Name x p) (e :: es) [] pos) (tCall sp dvs E t) := by
  refine ⟨fun pins s σ H Q I h => ?_⟩
  refine wpAny_Call_Name_kw (ld_glob I hg hm ?_ hdb)
  refine PySem.W.callWith_K (h₀ := X.base) I.ok.mod.kin hk (thn (ha.run pos pins s σ H _ I h) fun us s1 ⟨vs, H1, I1, r, q⟩ => ⟨I1.kIn, ?_⟩) he hpl
  have r2 : Vals (vs ++ dvs) (us ++ ds) := r.append hd
  have hl : (us ++ ds).length = ps.length := by rw [← r2.length]; exact F.len _ _ _ _ q
  exact call_fin (run_fnG (ws := []) F hr hG hx I1 (hb s1 us I1.kIn hl) r2 q)
theorem pe_callG0 (F : FnG X.prog X.w X.K X.mg X.base CX k f fd ps sp) (hr : Room k X.A) (hG : X.A.guards = some []) (hg : Gl X x) (hm : X.mg x = some (.ref f)) (hk : PySem.W.keepIn X.K (.ref f) = true) (hb : Binds X.K fd ps ds) (hd : Vals dvs ds) (hx : Passes CX X E)
    (hdb : (x == ("__debug__" : Str)) = false := by decide) : PE X (.Call (.Name x p) [] [] pos) (tCall sp dvs E tNil) := by
  refine ⟨fun pins s σ H Q I h => ?_⟩
  refine wpAny_Call_Name_kw (ld_glob I hg hm ?_ hdb)
  have r2 : Vals ([] ++ dvs) ([] ++ ds) := hd
  have hl : ([] ++ ds).length = ps.length := by rw [← r2.length]; exact F.len _ _ _ _ h
  exact PySem.W.callWith_K0 I.kIn hk (call_fin (run_fnG (ws := []) F hr hG hx I (hb s [] I.kIn hl) r2 h))
/-- the items at these places -/
def pick {α : Type} (ix : List Nat) (l : List α) : List α := ix.filterMap fun i => l[i]?
theorem pick_vals {vs : List V} {us : List Value} (r : Vals vs us) : ∀ ix : List Nat, Vals (pick ix vs) (pick ix us)
  | [] => .nil
  | i :: ix => by
    unfold pick
    rw [List.filterMap_cons, List.filterMap_cons]
    cases e : vs[i]? with
    | none =>
      rw [r.none_of e]
      exact pick_vals r ix
    | some v =>
      obtain ⟨u, e1, e2⟩ := r.get e
      rw [e1]
      exact .cons e2 (pick_vals r ix)
theorem pick_all {K : PySem.W.Frag} {F : Hp} {vs : List V} {ds : List D} (r : IsAll K F vs ds) : ∀ ix : List Nat, IsAll K F (pick ix vs) (pick ix ds)
  | [] => .nil
  | i :: ix => by
    unfold pick
    rw [List.filterMap_cons, List.filterMap_cons]
    cases e : vs[i]? with
    | none =>
      have h := r.length
      have h1 := List.getElem?_eq_none_iff.mp e
      rw [List.getElem?_eq_none_iff.mpr (show ds.length ≤ i by omega)]
      exact pick_all r ix
    | some v =>
      obtain ⟨d, e1, e2⟩ := r.getV e
      rw [e1]
      exact .cons e2 (pick_all r ix)
/-- a call with keywords binds: n positional values, then those of the keywords ks, picked by ix -/
def KB (K : PySem.W.Frag) (fd : FuncData) (ps : List Str) (n : Nat) (ks : List Str) (ix : List Nat) : Prop :=
  ∀ (s : Shared) (us ws : List Value), K.In s.heap → us.length = n → ws.length = ks.length → BindsTo s fd ⟨us, ks.zip ws⟩ (ps.zip (pick ix (us ++ ws)))
def tCallP (n nk : Nat) (ix : List Nat) (sp : Sp) (E : XK) (t tk : TA) : TE := fun σ H Q => t σ H fun vs H1 => tk σ H1 fun zs H2 => vs.length = n ∧ zs.length = nk ∧ sp (pick ix (vs ++ zs)) H2 Q E
variable {kws : List Keyword} {n : Nat} {ks : List Str} {ix : List Nat}
theorem pe_callGK (F : FnG X.prog X.w X.K X.mg X.base CX k f fd ps sp) (hr : Room k X.A) (hG : X.A.guards = some []) (hg : Gl X x) (hm : X.mg x = some (.ref f)) (hk : PySem.W.keepIn X.K (.ref f) = true) (hb : KB X.K fd ps n ks ix) (hx : Passes CX X E)
    (ha : PA X (e :: es) t) (hkw : PK X kws tk) (hall : (backToKw pos (keywordEach kws X.env)).all (·.1.isSome) = true := by rfl) (hks : (backToKw pos (keywordEach kws X.env)).filterMap (·.1) = ks := by rfl)
    (hdb : (x == ("__debug__" : Str)) = false := by decide) (he : starEach (e :: es) X.env = (false, eval e X.env) :: starEach es X.env := by rfl)
    (hpl : ((backTo pos (starEach (e :: es) X.env)).any (·.1) || (backToKw pos (keywordEach kws X.env)).any (·.1.isNone)) = false := by rfl) :
    PE X (.Call (.Name x p) (e :: es) kws pos) (tCallP n ks.length ix sp E t tk) := by
  refine ⟨fun pins s σ H Q I h => ?_⟩
  refine wpAny_Call_Name_kw (ld_glob I hg hm ?_ hdb)
  refine PySem.W.callWith_KW (h₀ := X.base) I.ok.mod.kin hk hall (thn (ha.run pos pins s σ H _ I h) fun us s1 ⟨vs, H1, I1, r, q⟩ => ?_) hpl he
  refine thn (hkw.run pos pins s1 σ H1 _ I1 q) fun ws s2 ⟨zs, H2, I2, rz, l1, l2, q2⟩ => ⟨I2.kIn, ?_⟩
  rw [hks]
  have r2 : Vals (pick ix (vs ++ zs)) (pick ix (us ++ ws)) := pick_vals (r.append rz) ix
  exact call_fin (run_fnG (ws := []) F hr hG hx I2 (hb s2 us ws I2.kIn (by rw [← r.length]; exact l1) (by rw [← rz.length]; exact l2)) r2 q2)
theorem pe_callGK0 (F : FnG X.prog X.w X.K X.mg X.base CX k f fd ps sp) (hr : Room k X.A) (hG : X.A.guards = some []) (hg : Gl X x) (hm : X.mg x = some (.ref f)) (hk : PySem.W.keepIn X.K (.ref f) = true) (hb : KB X.K fd ps 0 ks ix) (hx : Passes CX X E)
    (hkw : PK X kws tk) (hall : (backToKw pos (keywordEach kws X.env)).all (·.1.isSome) = true := by rfl) (hks : (backToKw pos (keywordEach kws X.env)).filterMap (·.1) = ks := by rfl)
    (hdb : (x == ("__debug__" : Str)) = false := by decide)
    (hpl : ((backTo pos (starEach [] X.env)).any (·.1) || (backToKw pos (keywordEach kws X.env)).any (·.1.isNone)) = false := by rfl) :
    PE X (.Call (.Name x p) [] kws pos) (tCallP 0 ks.length ix sp E tNil tk) := by
  refine ⟨fun pins s σ H Q I h => ?_⟩
  refine wpAny_Call_Name_kw (ld_glob I hg hm ?_ hdb)
  refine PySem.W.callWith_KW0 (h₀ := X.base) I.ok.mod.kin hk hall ?_ hpl
  refine thn (hkw.run pos pins s σ H _ I h) fun ws s2 ⟨zs, H2, I2, rz, l1, l2, q2⟩ => ⟨I2.kIn, ?_⟩
  rw [hks]
  have r2 : Vals (pick ix ([] ++ zs)) (pick ix ([] ++ ws)) := pick_vals rz ix
  exact call_fin (run_fnG (ws := []) F hr hG hx I2 (hb s2 [] ws I2.kIn rfl (by rw [← rz.length]; exact l2)) r2 q2)
end

/-! ### promises over data -/
abbrev Fn := List D → (D → Prop) → XD → Prop
/-- a def that does not see the deck; kd: it hands back a new list -/
def spN (K : PySem.W.Frag) (kd : Bool) (f : Fn) : Sp := fun vs H Q E => ∃ F ds q x, Fr none H F H F ∧ IsAll K F vs ds ∧ f ds q x ∧ (∀ v H' F' d, Fr none H F H' F' → RetIs K kd H H' F' v d → q d → Q v H') ∧ XE K none H F x E
/-- a def whose first parameter is the deck (its list's name: nm) -/
def spG (K : PySem.W.Frag) (nm : Str) (kd : Bool) (f : Fn) : Sp := fun vs H Q E => ∃ d l F ds q x, Fr (some (nm, d, l)) H F H F ∧ IsAll K F vs (.ref d :: ds) ∧ f ds q x ∧ (∀ v H' F' r, Fr (some (nm, d, l)) H F H' F' → RetIs K kd H H' F' v r → q r → Q v H') ∧ XE K (some (nm, d, l)) H F x E
section
variable {P : Program} {w : World} {K : PySem.W.Frag} {mg : Str → Option Value} {base : Heap} {f : Addr} {fd : FuncData} {N ps : List Str} {k n : Nat} {fn : Fn} {kd : Bool} {nm qual x : Str} {params : Arguments} {body : List Stmt} {scope : Scope} {dvs : List V}
/-- the slots at the entry -/
def startD (n : Nat) (ds : List D) : Ro := ds.map some ++ List.replicate (n - ds.length) none
theorem start_rel {g : Gd} {H F : Hp} {vs : List V} {ds : List D} (r : Fr g H F H F) (h : IsAll K F vs ds) : Rel K g H F [] (L2.start N vs) H F (startD N.length ds) := by
  have hl := h.length
  refine ⟨r, ?_, fun i d e _ => ?_, fun _ => 0, fun i hi => (by cases hi), fun i hi => (by cases hi)⟩
  · unfold L2.start startD
    rw [List.length_append, List.length_append, List.length_map, List.length_map, List.length_replicate, List.length_replicate, hl]
  · unfold startD at e
    by_cases hi : i < ds.length
    · rw [List.getElem?_append_left (by simpa using hi), List.getElem?_map, List.getElem?_eq_getElem hi] at e
      cases e
      obtain ⟨v, e1, e2⟩ := h.get (List.getElem?_eq_getElem hi)
      refine ⟨v, ?_, e2⟩
      unfold L2.start
      rw [List.getElem?_append_left (by rw [List.length_map]; omega), List.getElem?_map, e1]
      rfl
    · rw [List.getElem?_append_right (by simpa using hi), List.getElem?_replicate] at e
      split at e <;> cases e
abbrev entry (kd : Bool) (q : D → Prop) (x : XD) : DEnds := ⟨fun _ => kd = false ∧ q .non, fun _ => False, fun _ => False, q, x⟩
/-- THE RULE for a def without the deck -/
theorem okN (F : FunD K x qual params body scope dvs [] f fd) (S : FnScope N ps scope) (hl : ∀ ds q x, fn ds q x → ds.length = ps.length)
    (hbody : ∀ (cdv : Value) (A : Around) (outer : List Env) (s : Shared) (H : Hp) (E : XK), Room k (A.deeper (envOfC qual scope s.heap.objs.size f cdv)) → (A.deeper (envOfC qual scope s.heap.objs.size f cdv)).guards = some [] →
      ∃ m' fb, DSs (cxOf CX0 P w K mg base N qual scope f cdv A outer s H E).nox none E kd [] [] m' body fb ∧ ∀ ds q x, fn ds q x → fb (startD N.length ds) (entry kd q x)) :
    FnG P w K mg base CX0 (k + 1) f fd ps (spN K kd fn) := by
  obtain ⟨oc, od, dV, kV, doc, pm, an, cdv, ct, osl, rfl, lk, hcd, _, _⟩ := F.ex
  refine fnG_of lk hcd S (fun vs H Q E ⟨F, ds, q, x, _, h, hf, _⟩ => by rw [h.length]; exact hl _ _ _ hf) fun A outer s H vs Q E hr hG ⟨F, ds, q, x, r, h, hf, hq, hx⟩ => ?_
  obtain ⟨m', fb, hd, hs⟩ := hbody cdv A outer s H E hr hG
  refine ⟨_, hd.nox, H, F, F, startD N.length ds, entry kd q x, start_rel r h, hs ds q x hf, fun σ' H' F' ρ' R _ hn => ?_, fun _ _ _ _ _ _ z => z.elim, fun _ _ _ _ _ _ z => z.elim, fun v H' F' d r2 i hd2 => hq v H' F' d r2 i hd2, hx⟩
  obtain ⟨rfl, hn⟩ := hn
  exact hq .non H' F' .non R.fr Is.non hn
/-- .. with the deck -/
theorem okG (F : FunD K x qual params body scope dvs [] f fd) (S : FnScope N ps scope) (hl : ∀ ds q x, fn ds q x → ds.length + 1 = ps.length)
    (hbody : ∀ (cdv : Value) (A : Around) (outer : List Env) (s : Shared) (H : Hp) (E : XK) (d l : Addr), Room k (A.deeper (envOfC qual scope s.heap.objs.size f cdv)) → (A.deeper (envOfC qual scope s.heap.objs.size f cdv)).guards = some [] →
      ∃ m' fb, DSs (cxOf CX0 P w K mg base N qual scope f cdv A outer s H E).nox (some (nm, d, l)) E kd [] [] m' body fb ∧ ∀ ds q x, fn ds q x → fb (startD N.length (.ref d :: ds)) (entry kd q x)) :
    FnG P w K mg base CX0 (k + 1) f fd ps (spG K nm kd fn) := by
  obtain ⟨oc, od, dV, kV, doc, pm, an, cdv, ct, osl, rfl, lk, hcd, _, _⟩ := F.ex
  refine fnG_of lk hcd S (fun vs H Q E ⟨d, l, F, ds, q, x, _, h, hf, _⟩ => by rw [h.length, List.length_cons]; exact hl _ _ _ hf) fun A outer s H vs Q E hr hG ⟨d, l, F, ds, q, x, r, h, hf, hq, hx⟩ => ?_
  obtain ⟨m', fb, hd, hs⟩ := hbody cdv A outer s H E d l hr hG
  refine ⟨_, hd.nox, H, F, F, startD N.length (.ref d :: ds), entry kd q x, start_rel r h, hs ds q x hf, fun σ' H' F' ρ' R _ hn => ?_, fun _ _ _ _ _ _ z => z.elim, fun _ _ _ _ _ _ z => z.elim, fun v H' F' d r2 i hd2 => hq v H' F' d r2 i hd2, hx⟩
  obtain ⟨rfl, hn⟩ := hn
  exact hq .non H' F' .non R.fr Is.non hn
end

/-! ### calls -/
def fCall (f : Fn) (dd : List D) (fs : FA) : FE := fun ρ q x => fs ρ (fun ds => f (ds ++ dd) q x) x
/-- the deck, then the arguments -/
def fCallG (f : Fn) (d : Addr) (fs : FA) : FE := fun ρ q x => fs ρ (fun ds => match ds with | .ref a :: r => a = d ∧ f r q x | _ => False) x
def fCallK (f : Fn) (n nk : Nat) (ix : List Nat) (fs fk : FA) : FE := fun ρ q x => fs ρ (fun ds => fk ρ (fun es => ds.length = n ∧ es.length = nk ∧ f (pick ix (ds ++ es)) q x) x) x
section
variable {X : Cx} {g : Gd} {E : XK} {m : List Nat} {CX : CXT} {k : Nat} {f : Addr} {fd : FuncData} {ps : List Str} {fn : Fn} {dvs : List V} {dd : List D} {dss : List Value} {x : Str} {p pos : Pos} {e : Expr} {es : List Expr} {fs fk : FA} {kws : List Keyword} {n : Nat} {ks : List Str} {ix : List Nat}
theorem XE.bare {K : PySem.W.Frag} {H F : Hp} {x : XD} {H0 F0 : Hp} (r : Fr g H0 F0 H F) (h : XE K g H F x E) : XE K (Option.none : Gd) H F x E := fun C dx H' F' v d q n e i hx => h C dx H' F' v d (r.lift q) n e i hx
theorem call_N {K : PySem.W.Frag} {t : TA} {σ : L2.St} {H : Hp} {Q : VK} (ht : t = tA K g E m fs) (hd : ∀ F, IsAll K F dvs dd) (h : tE K g E m (fCall fn dd fs) σ H Q) : tCall (spN K false fn) dvs E t σ H Q := by
  subst ht
  obtain ⟨H0, F0, F, ρ, q, x, R, hf, hq, hx⟩ := h
  refine ⟨H0, F0, F, ρ, _, x, R, hf, fun vs H1 F1 ds r1 i1 hs => ?_, hx⟩
  have R1 := R.step r1
  exact ⟨F1, ds ++ dd, q, x, R1.fr.bare, i1.append (hd F1), hs, fun v H' F' d r2 i2 hd2 => hq v H' F' d (r1.trans (R1.fr.lift r2)) i2 hd2, XE.bare R1.fr (hx.step r1)⟩
theorem call_NF {K : PySem.W.Frag} {t : TA} {σ : L2.St} {H : Hp} {Q : VK} (ht : t = tA K g E m fs) (hd : ∀ F, IsAll K F dvs dd) (h : tF K g E m (fCall fn dd fs) σ H Q) : tCall (spN K true fn) dvs E t σ H Q := by
  subst ht
  obtain ⟨H0, F0, F, ρ, q, x, R, hf, hq, hx⟩ := h
  refine ⟨H0, F0, F, ρ, _, x, R, hf, fun vs H1 F1 ds r1 i1 hs => ?_, hx⟩
  have R1 := R.step r1
  refine ⟨F1, ds ++ dd, q, x, R1.fr.bare, i1.append (hd F1), hs, fun v H' F' d r2 i2 hd2 => ?_, XE.bare R1.fr (hx.step r1)⟩
  obtain ⟨a, vs', xs, rfl, rfl, e1, e2, e3, e4⟩ := i2
  exact hq a H' F' vs' xs (r1.trans (R1.fr.lift r2)) (r1.back e4) e1 e3 e2 hd2
variable (hr : Room k X.A) (hG : X.A.guards = some []) (hg : Gl X x) (hm : X.mg x = some (.ref f)) (hk : PySem.W.keepIn X.K (.ref f) = true) (hx : Passes CX X E)
include hr hG hg hm hk hx
theorem de_call (F : FnG X.prog X.w X.K X.mg X.base CX k f fd ps (spN X.K false fn)) (hb : Binds X.K fd ps dss) (hd : Vals dvs dss) (hdd : ∀ F, IsAll X.K F dvs dd) (ha : DA X g E m (e :: es) fs)
    (hdb : (x == ("__debug__" : Str)) = false := by decide) (he : starEach (e :: es) X.env = (false, eval e X.env) :: starEach es X.env := by rfl) (hpl : (backTo pos (starEach es X.env)).any (·.1) = false := by rfl) :
    DE X g E m (.Call (.Name x p) (e :: es) [] pos) (fCall fn dd fs) := PEimp (pe_callG F hr hG hg hm hk hb hd hx ha hdb he hpl) fun σ H Q h => call_N rfl hdd h
theorem df_call (F : FnG X.prog X.w X.K X.mg X.base CX k f fd ps (spN X.K true fn)) (hb : Binds X.K fd ps dss) (hd : Vals dvs dss) (hdd : ∀ F, IsAll X.K F dvs dd) (ha : DA X g E m (e :: es) fs)
    (hdb : (x == ("__debug__" : Str)) = false := by decide) (he : starEach (e :: es) X.env = (false, eval e X.env) :: starEach es X.env := by rfl) (hpl : (backTo pos (starEach es X.env)).any (·.1) = false := by rfl) :
    DF X g E m (.Call (.Name x p) (e :: es) [] pos) (fCall fn dd fs) := PEimp (pe_callG F hr hG hg hm hk hb hd hx ha hdb he hpl) fun σ H Q h => call_NF rfl hdd h
/-- a call with the deck -/
theorem de_callG {nm : Str} {d l : Addr} (F : FnG X.prog X.w X.K X.mg X.base CX k f fd ps (spG X.K nm false fn)) (hb : Binds X.K fd ps []) (ha : DA X (some (nm, d, l)) E m (e :: es) fs)
    (hdb : (x == ("__debug__" : Str)) = false := by decide) (he : starEach (e :: es) X.env = (false, eval e X.env) :: starEach es X.env := by rfl) (hpl : (backTo pos (starEach es X.env)).any (·.1) = false := by rfl) :
    DE X (some (nm, d, l)) E m (.Call (.Name x p) (e :: es) [] pos) (fCallG fn d fs) := PEimp (pe_callG F hr hG hg hm hk hb .nil hx ha hdb he hpl) fun σ H Q h => by
  obtain ⟨H0, F0, F, ρ, q, x, R, hf, hq, hx⟩ := h
  refine ⟨H0, F0, F, ρ, _, x, R, hf, fun vs H1 F1 ds r1 i1 hs => ?_, hx⟩
  have R1 := R.step r1
  split at hs
  · obtain ⟨rfl, hs⟩ := hs
    show spG X.K nm false fn (vs ++ []) H1 Q E
    rw [List.append_nil]
    exact ⟨_, l, F1, _, q, x, R1.fr.self, i1, hs, fun v H' F' r r2 i2 hd2 => hq v H' F' r (r1.trans r2) i2 hd2, hx.step r1⟩
  · exact hs.elim
abbrev DK (X : Cx) (g : Gd) (E : XK) (m : List Nat) (kws : List Keyword) (f : FA) : Prop := PK X kws (tA X.K g E m f)
/-- a call with keywords -/
theorem de_callK (F : FnG X.prog X.w X.K X.mg X.base CX k f fd ps (spN X.K false fn)) (hb : KB X.K fd ps n ks ix) (ha : DA X g E m (e :: es) fs) (hkw : DK X g E m kws fk)
    (hall : (backToKw pos (keywordEach kws X.env)).all (·.1.isSome) = true := by rfl) (hks : (backToKw pos (keywordEach kws X.env)).filterMap (·.1) = ks := by rfl)
    (hdb : (x == ("__debug__" : Str)) = false := by decide) (he : starEach (e :: es) X.env = (false, eval e X.env) :: starEach es X.env := by rfl)
    (hpl : ((backTo pos (starEach (e :: es) X.env)).any (·.1) || (backToKw pos (keywordEach kws X.env)).any (·.1.isNone)) = false := by rfl) :
    DE X g E m (.Call (.Name x p) (e :: es) kws pos) (fCallK fn n ks.length ix fs fk) := PEimp (pe_callGK F hr hG hg hm hk hb hx ha hkw hall hks hdb he hpl) fun σ H Q ⟨H0, F0, F, ρ, q, x, R, hf, hq, hx⟩ => by
  refine ⟨H0, F0, F, ρ, _, x, R, hf, fun vs H1 F1 ds r1 i1 hs => ⟨H0, F0, F1, ρ, _, x, R.step r1, hs, fun zs H2 F2 ds2 r2 i2 hs2 => ?_, hx.step r1⟩, hx⟩
  have R2 := (R.step r1).step r2
  exact ⟨by rw [i1.length]; exact hs2.1, by rw [i2.length]; exact hs2.2.1, F2, _, q, x, R2.fr.bare, pick_all ((i1.up r2.f0).append i2) ix, hs2.2.2, fun v H' F' d r3 i3 hd => hq v H' F' d (r1.trans (r2.trans (R2.fr.lift r3))) i3 hd, XE.bare R2.fr ((hx.step r1).step r2)⟩
theorem de_callK0 (F : FnG X.prog X.w X.K X.mg X.base CX k f fd ps (spN X.K false fn)) (hb : KB X.K fd ps 0 ks ix) (hkw : DK X g E m kws fk)
    (hall : (backToKw pos (keywordEach kws X.env)).all (·.1.isSome) = true := by rfl) (hks : (backToKw pos (keywordEach kws X.env)).filterMap (·.1) = ks := by rfl)
    (hdb : (x == ("__debug__" : Str)) = false := by decide)
    (hpl : ((backTo pos (starEach [] X.env)).any (·.1) || (backToKw pos (keywordEach kws X.env)).any (·.1.isNone)) = false := by rfl) :
    DE X g E m (.Call (.Name x p) [] kws pos) (fCallK fn 0 ks.length ix fNil fk) := PEimp (pe_callGK0 F hr hG hg hm hk hb hx hkw hall hks hdb hpl) fun σ H Q ⟨H0, F0, F, ρ, q, x, R, hf, hq, hx⟩ => by
  refine ⟨H0, F0, F, ρ, _, x, R, hf, fun zs H2 F2 ds2 r2 i2 hs2 => ?_, hx⟩
  have R2 := R.step r2
  exact ⟨rfl, by rw [i2.length]; exact hs2.2.1, F2, _, q, x, R2.fr.bare, pick_all i2 ix, hs2.2.2, fun v H' F' d r3 i3 hd => hq v H' F' d (r2.trans (R2.fr.lift r3)) i3 hd, XE.bare R2.fr (hx.step r2)⟩
omit hr hG hg hm hk hx
theorem dk_nil : DK X g E m [] fNil := ⟨fun pos pins s σ H Q I ⟨H0, F0, F, ρ, q, x, R, hf, hq, hx⟩ => pk_nil.run pos pins s σ H Q I (hq [] H F [] R.fr.self .nil hf)⟩
theorem dk_cons {nmk : Option Str} {kpos : Pos} {fe : FE} (h : DE X g E m e fe) (hr : DK X g E m kws fs) : DK X g E m (⟨nmk, e, kpos⟩ :: kws) (fCons fe fs) :=
  ⟨fun pos pins s σ H Q I ⟨H0, F0, F, ρ, q, x, R, hf, hq, hx⟩ => (pk_cons h hr).run pos pins s σ H Q I
    ⟨H0, F0, F, ρ, _, x, R, hf, fun v H1 F1 d r1 i1 hd => ⟨H0, F0, F1, ρ, _, x, R.step r1, hd, fun vs H2 F2 ds r2 i2 h2 => hq _ H2 F2 _ (r1.trans r2) (.cons (i1.up r2.f0) i2) h2, hx.step r1⟩, hx⟩⟩
end
end DL

/-! DL6: the law's end; the deck; parallel stores; xs[::-1]. -/
namespace DL
open PySem PySem.Spec PyProof.Rows L2
/-! ### the end of a law -/
section
variable {P : Program} {w : World} {K : PySem.W.Frag} {mg mb : Str → Option Value}
/-- the script alone is tracked (where it is no object of the text) -/
def scr (K : PySem.W.Frag) (a : Addr) (vs : List Value) (ns : List Int) : Hp := fun b =>
  if b = a ∧ K.lookup a = none then some (.frz { cls := .type "list", data := .seq vs.toArray } (.lst (ns.map V.int))) else none
theorem scr_some {a b : Addr} {vs : List Value} {ns : List Int} {o : HO} (h : scr K a vs ns b = some o) : b = a ∧ K.lookup a = none ∧ o = .frz { cls := .type "list", data := .seq vs.toArray } (.lst (ns.map V.int)) := by
  unfold scr at h
  split at h
  · rename_i q
    exact ⟨q.1, q.2, (Option.some.inj h).symm⟩
  · cases h
theorem scr_off {a b : Addr} {vs : List Value} {ns : List Int} (h : b = a → K.lookup a ≠ none) : scr K a vs ns b = none := if_neg fun q => h q.1 q.2
theorem run_law {k : Nat} {fa a : Addr} {fd : FuncData} {x : Str} {sp : Sp} {s : Shared} {vs : List Value} {ns : List Int}
    (kin : K.In s.heap) (glob : s.heap.Ns mainGlobals mg) (blt : s.heap.Ns builtinsNs mb) (bb : ∀ x : Str, x ≠ "__name__" → mb x = bootBuiltins x) (lim : s.heap.NoLimit) (nog : s.gens = #[])
    (hs : s.heap.get? a = some { cls := .type "list", data := .seq vs.toArray }) (hi : IntsAre vs ns) (hl : ns.length ≤ sizeLine) (room : Room k callerA)
    (F : ∀ base : Heap, K.In base → base.Ns mainGlobals mg → FnG P w K mg base CX0 k fa fd [x] sp) (bind : ∀ (s : Shared) (u : Value), BindsTo s fd ⟨[u], []⟩ [(x, u)])
    (want : ∀ H : Hp, SqL K H a (ns.map V.int) → sp [.ref a] H (fun v _ => v = .bl true) fun _ _ _ => False) :
    codeAny (model P w) callerA (.call (.ref fa) ⟨[.ref a], []⟩) (fun r s' => r = .ok (.ret (.bool true)) ∧ OldK s.heap s'.heap ∧ s'.os = s.os ∧ AllBare s'.gens) s := by
  have vals := vals_ints hi
  have lens := vals.length
  rw [List.length_map] at lens
  have inK : ∀ b o, K.lookup b = some o → scr K a vs ns b = none := fun b o z => scr_off fun q => by rw [← q, z]; exact fun z => by cases z
  have dictless : ∀ b o es ep, s.heap.get? b = some o → o.data = .dict es ep → scr K a vs ns b = none := fun b o es ep h1 h2 => scr_off fun q => by
    rw [q, hs] at h1
    cases h1
    cases h2
  have reads : SqL K (scr K a vs ns) a (ns.map V.int) := by
    cases hk : K.lookup a with
    | none => exact .inl (.inr ⟨_, if_pos ⟨rfl, hk⟩⟩)
    | some o =>
      have := kin a o hk
      rw [hs] at this
      cases this
      exact .inr ⟨_, vs.toArray, _, hk, rfl, rfl, rfl, by rw [List.size_toArray]; omega, by simpa using vals⟩
  have held : HOk P w (scr K a vs ns) s.heap := fun b o z => by
    obtain ⟨rfl, _, rfl⟩ := scr_some z
    exact ⟨hs, by rw [List.length_map]; exact hl, vs, _, vals, hs⟩
  have under : ∀ {b : Addr} {m : Str → Option Value}, s.heap.Ns b m → (hidT s.heap (scr K a vs ns)).Ns b m := fun {b m} ⟨o, es, ep, h1, h2, h3⟩ => ⟨o, es, ep, hidT_get h1 (dictless b o es ep h1 h2), h2, h3⟩
  have kinB : K.In (hidT s.heap (scr K a vs ns)) := fun b o z => hidT_get (kin b o z) (inK b o z)
  have limB : (hidT s.heap (scr K a vs ns)).NoLimit := by
    obtain ⟨mc, h1, h2⟩ := lim
    exact ⟨mc, under h1, h2⟩
  have env0 : Env0 P w K mg (hidT s.heap (scr K a vs ns)) callerA [] s (scr K a vs ns) :=
    ⟨rfl, ⟨kinB, under glob, ⟨mb, under blt, bb⟩, limB⟩, fun _ _ z => of_hidT z, Nat.le_of_eq (hidT_size _ _), trivial, fun _ z => (nomatch z), held, .of_eq nog⟩
  refine codeAny_mono ((F _ kinB (under glob)).run callerA [] s _ ⟨[.ref a], []⟩ [.ref a] [.ref a] _ _ room rfl env0 (bind s (.ref a)) (.cons rfl .nil) (want _ reads)) fun r s' z => ?_
  match r, z with
  | .ok (.ret u), ⟨v, H', os, bare, un, ok', e, q⟩ =>
    have q : v = .bl true := q
    subst q
    obtain rfl : u = .bool true := e
    refine ⟨rfl, OldK.of_keep fun b o h1 => ?_, os, bare⟩
    cases hb : scr K a vs ns b with
    | none => exact un.keep b o h1 hb (fun z => nomatch z) (fun z => nomatch z)
    | some u =>
      obtain ⟨rfl, _, rfl⟩ := scr_some hb
      rw [hs] at h1
      cases h1
      exact (ok' b _ (un.frzs b _ _ hb)).1
theorem walk_law {l : PySem.W.OpenLaw} {n k : Nat} {q : Program} {loose : List Str} {XP : (Str → Option Value) → Heap → Prop} {YP : World → Heap → Prop} {d : DefRec} {K : Params → PySem.W.Frag} {sp : PySem.W.Frag → Sp} {x : Str}
    (hn : l.most = some n) (hn2 : n ≤ sizeLine) (hdf : d.params.defaults = []) (hr : Room k callerA)
    (hY : ∀ (w : World) (h : Heap), YP w h → (K w.params).In h)
    (F : ∀ (w : World) (mg : Str → Option Value) (fa : Addr) (h : Heap), (K w.params).In h → h.Ns mainGlobals mg → mg d.name = some (.ref fa) →
      ∃ fd : FuncData, (∀ (s : Shared) (u : Value), BindsTo s fd ⟨[u], []⟩ [(x, u)]) ∧
        ∀ base : Heap, (K w.params).In base → base.Ns mainGlobals mg → FnG l.prog w (K w.params) mg base CX0 k fa fd [x] (sp (K w.params)))
    (hsp : ∀ (K : PySem.W.Frag) (H : Hp) (a : Addr) (ns : List Int), ns.length ≤ n → (∀ z ∈ ns, Builtin.Int.intBits z ≤ 1048576) → SqL K H a (ns.map V.int) → sp K [.ref a] H (fun v _ => v = .bl true) fun _ _ _ => False) :
    PySem.W.WalkO q loose XP YP l.row.toRowW d [] (fun f vs => PySem.call f vs) := by
  refine Att.attach_callB hn hdf fun w s₀ s mg mb fa o pm cd doc a vs ns G Y _ _ _ hmg hobj hints hlen hbits hg => ?_
  have kin := hY w _ Y
  obtain ⟨fd, hb, hF⟩ := F w mg fa _ kin G.T.g hmg
  exact run_law kin G.T.g G.T.b G.T.builtins G.T.nolimit hg hobj hints (Nat.le_trans hlen hn2) hr hF hb fun H hS => hsp _ H a ns hlen hbits hS
end

/-! ### a def by its own words -/
section
variable {P : Program} {w : World} {K : PySem.W.Frag} {mg : Str → Option Value} {base : Heap} {f : Addr} {fd : FuncData} {N ps : List Str} {k : Nat} {qual x : Str} {params : Arguments} {body : List Stmt} {scope : Scope} {dvs : List V} {sp : Sp}
theorem okRaw (F : FunD K x qual params body scope dvs [] f fd) (S : FnScope N ps scope) (hl : ∀ vs H Q E, sp vs H Q E → vs.length = ps.length)
    (hbody : ∀ (cdv : Value) (A : Around) (outer : List Env) (s : Shared) (H : Hp) (vs : List V) (Q : VK) (E : XK), Room k (A.deeper (envOfC qual scope s.heap.objs.size f cdv)) → (A.deeper (envOfC qual scope s.heap.objs.size f cdv)).guards = some [] → sp vs H Q E →
      ∃ t, PSs (cxOf CX0 P w K mg base N qual scope f cdv A outer s H E).nox body t ∧ t { nx := fun _ H' => Q .non H', rt := Q } (L2.start N vs) H) :
    FnG P w K mg base CX0 (k + 1) f fd ps sp := by
  obtain ⟨oc, od, dV, kV, doc, pm, an, cdv, ct, osl, rfl, lk, hcd, _, _⟩ := F.ex
  refine fnG_of lk hcd S hl fun A outer s H vs Q E hr hG h => ?_
  obtain ⟨t, h1, h2⟩ := hbody cdv A outer s H vs Q E hr hG h
  exact ⟨t, h1.nox, h2⟩
end

/-! ### the deck -/
def dkL (nm : Str) (l : Addr) (mi dr : Int) : List (Key × V) := [(.inr nm, .ref l), (.inr "mixed", .int mi), (.inr "draws", .int dr)]
theorem md_ne0 : ¬ (("mixed" : Str) = "draws") := by decide +kernel
theorem dm_ne0 : ¬ (("draws" : Str) = "mixed") := by decide +kernel
theorem md_ne : ¬ ((Sum.inr ("mixed" : Str) : Key) = Sum.inr ("draws" : Str)) := fun z => absurd (Sum.inr.inj z) (by decide +kernel)
theorem dm_ne : ¬ ((Sum.inr ("draws" : Str) : Key) = Sum.inr ("mixed" : Str)) := fun z => md_ne z.symm
section
variable {nm : Str} {l : Addr} {mi dr : Int} (h1 : ¬ nm = "mixed") (h2 : ¬ nm = "draws")
theorem dk_l : valV (dkL nm l mi dr) (.inr nm) = some (.ref l) := valV_pos rfl
include h1 in
theorem dk_m : valV (dkL nm l mi dr) (.inr "mixed") = some (.int mi) := by
  unfold dkL
  rw [valV_neg (fun z => h1 (Sum.inr.inj z)), valV_pos rfl]
include h2 in
theorem dk_d : valV (dkL nm l mi dr) (.inr "draws") = some (.int dr) := by
  unfold dkL
  rw [valV_neg (fun z => h2 (Sum.inr.inj z)), valV_neg md_ne, valV_pos rfl]
include h2 in
theorem dk_pd {z : Int} : putK (dkL nm l mi dr) (.inr "draws") (.int z) = dkL nm l mi z := by
  have e1 : ¬ ((Sum.inr nm : Key) = Sum.inr ("draws" : Str)) := fun z => h2 (Sum.inr.inj z)
  simp [putK, dkL, e1, md_ne0]
include h1 in
theorem dk_pm {z : Int} : putK (dkL nm l mi dr) (.inr "mixed") (.int z) = dkL nm l z dr := by
  have e1 : ¬ ((Sum.inr nm : Key) = Sum.inr ("mixed" : Str)) := fun z => h1 (Sum.inr.inj z)
  simp [putK, dkL, e1, dm_ne0]
include h1 h2 in
theorem dk_merge : mergeK [] (dkL nm l mi dr) = dkL nm l mi dr := by
  have e1 : ¬ ((Sum.inr nm : Key) = Sum.inr ("mixed" : Str)) := fun z => h1 (Sum.inr.inj z)
  have e2 : ¬ ((Sum.inr nm : Key) = Sum.inr ("draws" : Str)) := fun z => h2 (Sum.inr.inj z)
  simp [mergeK, putK, dkL, e1, e2, md_ne0]
end
theorem DeckAt.of {nm : Str} {d l : Addr} {H : Hp} {cs : List Int} {mi dr : Int} (h1 : H d = some (.dK (dkL nm l mi dr))) (h2 : H l = some (.lst (cs.map V.int))) (h3 : cs.length ≤ 63) (h4 : -(2 ^ 40) < mi ∧ mi < 2 ^ 40) (h5 : d ≠ l) : DeckAt nm d l H :=
  ⟨cs, mi, dr, h1, h2, h3, h4, h5⟩
/-- the deck was changed, and the lists of this deed are dropped -/
theorem Fr.deck {nm : Str} {d l : Addr} {H F H' : Hp} (r : Fr (some (nm, d, l)) H F H F) (k : ∀ b o, b ≠ d → b ≠ l → H b = some o → H' b = some o) (j : DeckAt nm d l H') : Fr (some (nm, d, l)) H F H' F :=
  ⟨fun a o m h => k a o (fun z => m (.inl z)) (fun z => m (.inr z)) h, j, fun a o h => k a o (fun z => by
    have := (r.nm a (.inl z)).1
    rw [h] at this
    cases this) (fun z => by
    have := (r.nm a (.inr z)).1
    rw [h] at this
    cases this) (r.sub a o h), Ex.refl _, fun _ _ => rfl, fun a m => ⟨(r.nm a m).1, (r.nm a m).2⟩⟩
/-- the ints of a list as data of the library -/
theorem pints_lay : ∀ cs : List Int, PyData.canLayAll0 (cs.map PyData.int) = true
  | [] => rfl
  | c :: cs => by
    show (true && PyData.canLayAll0 (cs.map PyData.int)) = true
    rw [pints_lay cs] <;> rfl
theorem pints_dep : ∀ cs : List Int, PyData.depthAll (cs.map PyData.int) = 0
  | [] => rfl
  | c :: cs => by
    show max 0 (PyData.depthAll (cs.map PyData.int)) = 0
    rw [pints_dep cs] <;> rfl
theorem pints_dp {K : PySem.W.Frag} {H : Hp} : ∀ cs : List Int, DpAll K H (cs.map V.int) (cs.map PyData.int)
  | [] => .nil
  | c :: cs => .cons (.int c) (pints_dp cs)
theorem pints_shaped (cs : List Int) : SeqAt.shaped (.list (cs.map PyData.int)) = true := by
  unfold SeqAt.shaped
  show (PyData.canLayAll0 (cs.map PyData.int) && decide (PyData.depthAll (cs.map PyData.int) + 1 ≤ 64)) = true
  rw [pints_lay, pints_dep] <;> rfl
/-- what the deck's maker promises -/
def spDeck (K : PySem.W.Frag) (nm : Str) : Sp := fun vs H Q _ => ∃ (a : Addr) (ns : List Int), vs = [.ref a] ∧ SqL K H a (ns.map V.int) ∧ ns.length ≤ 63 ∧ ∀ H' d l, Ex H H' → H d = none → H l = none → DeckAt nm d l H' → Q (.ref d) H'
/-- a draw: any integer below many -/
def fnDraw : Fn := fun ds q _ => ∃ n : Int, ds = [.int n] ∧ 1 ≤ n ∧ n < 1073741824 ∧ ∀ r : Int, 0 ≤ r → r < n → q (.int r)

/-! ### a, b = x, y -/
def fPar2 (i j : Nat) (fs : FA) : FS := fun ρ d => fs ρ (fun ds => match ds with | [a, b] => i < ρ.length ∧ j < ρ.length ∧ d.nx ((ρ.set i (some a)).set j (some b)) | _ => False) d.x
def fPar3 (i j l : Nat) (fs : FA) : FS := fun ρ d => fs ρ (fun ds => match ds with | [a, b, c] => i < ρ.length ∧ j < ρ.length ∧ l < ρ.length ∧ d.nx (((ρ.set i (some a)).set j (some b)).set l (some c)) | _ => False) d.x
section
variable {X : Cx} {g : Gd} {E : XK} {kd : Bool} {mb m : List Nat} {a b c e : Expr} {fs : FA} {fe : FE} {pos : Pos}
theorem ds_par2 {i j : Nat} {x y : Str} {px py pt : Pos} {kt k2 pt2} (hc : X.calm = true) (hN : X.N.Nodup) (hi : X.N[i]? = some x) (hj : X.N[j]? = some y) (hx : X.env.scope.names.lookup x = some .local) (hy : X.env.scope.names.lookup y = some .local) (ha : DA X g E m [a, b] fs)
    (hw : swappedStores [.Tuple [.Name x px, .Name y py] kt pt] (.Tuple [a, b] k2 pt2) X.env = pure (some [x, y]) := by rfl) (hij : i ≠ j := by decide)
    (hs : swapsWithSole [.Tuple [.Name x px, .Name y py] kt pt] (.Tuple [a, b] k2 pt2) pos.line X.env = pure false := by rfl) :
    DS X g E kd mb m (del (del m i) j) (.Assign [.Tuple [.Name x px, .Name y py] kt pt] (.Tuple [a, b] k2 pt2) pos) (fPar2 i j fs) := PSimp (ps_par hc hN hi hj hij hx hy ha hw hs) fun D σ H ⟨H0, F0, F, ρ, d, R, hf, h1, h2, h3, h4, h5⟩ =>
  ⟨H0, F0, F, ρ, _, d.x, R, hf, fun vs H1 F1 ds r1 i1 hd => by
    split at hd
    · cases i1 with
      | cons p q =>
        cases q with
        | cons p' q' =>
          cases q'
          exact ⟨_, _, rfl, h1 _ H1 F1 _ (((R.step r1).set p hd.1).set p' (by rw [List.length_set]; exact hd.2.1)) r1.f0 hd.2.2⟩
    · exact hd.elim, h5.step R.fr⟩
theorem ds_par3 {i j l : Nat} {x y z : Str} {px py pz pt : Pos} {kt k2 pt2} (hc : X.calm = true) (hN : X.N.Nodup) (hi : X.N[i]? = some x) (hj : X.N[j]? = some y) (hl : X.N[l]? = some z) (hx : X.env.scope.names.lookup x = some .local) (hy : X.env.scope.names.lookup y = some .local) (hz : X.env.scope.names.lookup z = some .local) (ha : DA X g E m [a, b, c] fs)
    (hw : swappedStores [.Tuple [.Name x px, .Name y py, .Name z pz] kt pt] (.Tuple [a, b, c] k2 pt2) X.env = pure (some [x, y, z]) := by rfl) (hij : i ≠ j := by decide) (hil : i ≠ l := by decide) (hjl : j ≠ l := by decide)
    (hs : swapsWithSole [.Tuple [.Name x px, .Name y py, .Name z pz] kt pt] (.Tuple [a, b, c] k2 pt2) pos.line X.env = pure false := by rfl) :
    DS X g E kd mb m (del (del (del m i) j) l) (.Assign [.Tuple [.Name x px, .Name y py, .Name z pz] kt pt] (.Tuple [a, b, c] k2 pt2) pos) (fPar3 i j l fs) := PSimp (ps_par3 hc hN hi hj hl hij hil hjl hx hy hz ha hw hs) fun D σ H ⟨H0, F0, F, ρ, d, R, hf, h1, h2, h3, h4, h5⟩ =>
  ⟨H0, F0, F, ρ, _, d.x, R, hf, fun vs H1 F1 ds r1 i1 hd => by
    split at hd
    · cases i1 with
      | cons p q =>
        cases q with
        | cons p' q' =>
          cases q' with
          | cons p'' q'' =>
            cases q''
            exact ⟨_, _, _, rfl, h1 _ H1 F1 _ ((((R.step r1).set p hd.1).set p' (by rw [List.length_set]; exact hd.2.1)).set p'' (by rw [List.length_set, List.length_set]; exact hd.2.2.1)) r1.f0 hd.2.2.2⟩
    · exact hd.elim, h5.step R.fr⟩
/-- xs[::-1] of a list: a new one -/
def sRev : D → (D → Prop) → XD → Prop := fun a q _ => match a with | .lst xs => q (.lst xs.reverse) | _ => False
theorem df_rev {k : Nat} {p1 p2 p3 : Pos} (h : DB X g E m e fe) : DF X g E m (.Subscript e (.Slice none none (some (.UnaryOp .USub (.Constant (.int 1) k p1) p2)) p3) pos) (f1 sRev fe) :=
  df_1 (r := fun v H Q => ∃ a xs, v = .ref a ∧ SqL X.K H a xs ∧ ∀ p, H p = none → Q (.ref p) (upd H p (.lst xs.reverse))) (pe_revL h) fun g E H F v a q x Q r ia hs hq hx => by
  unfold sRev at hs
  split at hs
  · obtain ⟨p, ys, rfl, h1, h2⟩ := ia.lst' r.sub
    exact ⟨_, _, rfl, h1, fun l hl => hq l _ F _ _ (r.newO hl) hl upd_same (r.freeF hl) h2.reverse hs⟩
  · exact hs.elim
end
end DL

/-! DL7: short names; a def as it is called; readings of the deck's two defs. -/
namespace DL
open PySem PySem.Spec PyProof.Rows L2
/-! ### short names -/
abbrev Sem2T := D → D → (D → Prop) → XD → Prop
abbrev Sem1T := D → (D → Prop) → XD → Prop
abbrev sSub : Sem2T := sI0 fun i j => .int (i - j)
abbrev sMul : Sem2T := sI IntMulOk fun i j => .int (i * j)
abbrev sDiv : Sem2T := sI DivOk fun i j => .int (i.fdiv j)
abbrev sMod : Sem2T := sI (fun _ j => j ≠ 0) fun i j => .int (i.fmod j)
abbrev sPow : Sem2T := sI CPow fun i j => .int (i ^ j.toNat)
abbrev sMax2 : Sem2T := sI0 fun i j => .int (if j > i then j else i)
abbrev sMin2 : Sem2T := sI0 fun i j => .int (if j < i then j else i)
abbrev sGcd : Sem2T := sI0 fun i j => .int (gcdI i j)
abbrev sReprT : Sem1T := fun a q x => (match a with | .tup _ => True | .lst _ => True | _ => False) ∧ sRepr a q x
abbrev tyNames : List String := ["NoneType", "bool", "int", "str", "tuple", "list"]
theorem isi_int : ∀ t ∈ tyNames, kitB t "int" = some (isTy "int" t) := by decide +kernel
theorem isi_bool : ∀ t ∈ tyNames, kitB t "bool" = some (isTy "bool" t) := by decide +kernel
theorem isi_tuple : ∀ t ∈ tyNames, kitB t "tuple" = some (isTy "tuple" t) := by decide +kernel
theorem isi_list : ∀ t ∈ tyNames, kitB t "list" = some (isTy "list" t) := by decide +kernel
theorem isi_str : ∀ t ∈ tyNames, kitB t "str" = some (isTy "str" t) := by decide +kernel
theorem hu65 {A : Around} {k : Nat} (hr : Room k A) : A.units + 65 < cLine := by have := hr.un; omega
/-- a module's constant, told by the head -/
def Con (K : PySem.W.Frag) (mg : Str → Option Value) (x : Str) (d : D) : Prop := ∃ v u, mg x = some u ∧ RelV v u ∧ ∀ F, Is K F v d
theorem de_con {X : Cx} {g : Gd} {E : XK} {m : List Nat} {x : Str} {d : D} {pos : Pos} (hg : Gl X x) (c : Con X.K X.mg x d) (hd : (x == ("__debug__" : Str)) = false := by decide) : DE X g E m (.Name x pos) (fK d) := by
  obtain ⟨v, u, h1, h2, h3⟩ := c
  exact de_glob hg h1 h2 h3 hd
/-! ### a def as it is called -/
/-- bs: the defaults that fill up a positional call; kbs: the keyword calls -/
structure Cal (P : Program) (w : World) (K : PySem.W.Frag) (mg : Str → Option Value) (base : Heap) (k : Nat) (x : Str) (ps : List Str) (sp : Sp) (bs : List (List D)) (kbs : List (Nat × List Str × List Nat)) : Prop where
  ex : ∃ (f : Addr) (fd : FuncData), FnG P w K mg base CX0 k f fd ps sp ∧ mg x = some (.ref f) ∧ PySem.W.keepIn K (.ref f) = true ∧
    (∀ dd ∈ bs, ∃ (dvs : List V) (dss : List Value), Binds K fd ps dss ∧ Vals dvs dss ∧ ∀ F, IsAll K F dvs dd) ∧ ∀ t ∈ kbs, KB K fd ps t.1 t.2.1 t.2.2
section
variable {X : Cx} {g : Gd} {E : XK} {m : List Nat} {j k : Nat} {ps : List Str} {fn : Fn} {dd : List D} {x : Str} {p pos : Pos} {e : Expr} {es : List Expr} {fs fk : FA} {kws : List Keyword} {bs : List (List D)} {kbs : List (Nat × List Str × List Nat)}
theorem cal_N (C : Cal X.prog X.w X.K X.mg X.base j x ps (spN X.K false fn) bs kbs) (hr : Room k X.A) (hG : X.A.guards = some []) (hg : Gl X x) (i : Nat) (ha : DA X g E m (e :: es) fs) (hb : bs[i]? = some dd := by rfl) (hj : j ≤ k := by decide)
    (hdb : (x == ("__debug__" : Str)) = false := by decide) (he : starEach (e :: es) X.env = (false, eval e X.env) :: starEach es X.env := by rfl) (hpl : (backTo pos (starEach es X.env)).any (·.1) = false := by rfl) :
    DE X g E m (.Call (.Name x p) (e :: es) [] pos) (fCall fn dd fs) := by
  obtain ⟨f, fd, h1, h2, h3, h4, _⟩ := C.ex
  obtain ⟨dvs, dss, b1, b2, b3⟩ := h4 dd (List.mem_of_getElem? hb)
  exact de_call (hr.mono hj) hG hg h2 h3 passN h1 b1 b2 b3 ha hdb he hpl
theorem cal_F (C : Cal X.prog X.w X.K X.mg X.base j x ps (spN X.K true fn) bs kbs) (hr : Room k X.A) (hG : X.A.guards = some []) (hg : Gl X x) (i : Nat) (ha : DA X g E m (e :: es) fs) (hb : bs[i]? = some dd := by rfl) (hj : j ≤ k := by decide)
    (hdb : (x == ("__debug__" : Str)) = false := by decide) (he : starEach (e :: es) X.env = (false, eval e X.env) :: starEach es X.env := by rfl) (hpl : (backTo pos (starEach es X.env)).any (·.1) = false := by rfl) :
    DF X g E m (.Call (.Name x p) (e :: es) [] pos) (fCall fn dd fs) := by
  obtain ⟨f, fd, h1, h2, h3, h4, _⟩ := C.ex
  obtain ⟨dvs, dss, b1, b2, b3⟩ := h4 dd (List.mem_of_getElem? hb)
  exact df_call (hr.mono hj) hG hg h2 h3 passN h1 b1 b2 b3 ha hdb he hpl
theorem cal_G {nm : Str} {d l : Addr} (C : Cal X.prog X.w X.K X.mg X.base j x ps (spG X.K nm false fn) [[]] kbs) (hr : Room k X.A) (hG : X.A.guards = some []) (hg : Gl X x) (ha : DA X (some (nm, d, l)) E m (e :: es) fs) (hj : j ≤ k := by decide)
    (hdb : (x == ("__debug__" : Str)) = false := by decide) (he : starEach (e :: es) X.env = (false, eval e X.env) :: starEach es X.env := by rfl) (hpl : (backTo pos (starEach es X.env)).any (·.1) = false := by rfl) :
    DE X (some (nm, d, l)) E m (.Call (.Name x p) (e :: es) [] pos) (fCallG fn d fs) := by
  obtain ⟨f, fd, h1, h2, h3, h4, _⟩ := C.ex
  obtain ⟨dvs, dss, b1, b2, b3⟩ := h4 [] (List.mem_cons_self ..)
  have e1 := b3 fun _ => none
  cases dvs with
  | cons v vs => cases e1
  | nil =>
    cases b2
    exact de_callG (hr.mono hj) hG hg h2 h3 passN h1 b1 ha hdb he hpl
theorem cal_K (C : Cal X.prog X.w X.K X.mg X.base j x ps (spN X.K false fn) bs kbs) (hr : Room k X.A) (hG : X.A.guards = some []) (hg : Gl X x) (i n : Nat) (ks : List Str) (ix : List Nat) (ha : DA X g E m (e :: es) fs) (hkw : DK X g E m kws fk) (hb : kbs[i]? = some (n, ks, ix) := by rfl) (hj : j ≤ k := by decide)
    (hall : (backToKw pos (keywordEach kws X.env)).all (·.1.isSome) = true := by rfl) (hks : (backToKw pos (keywordEach kws X.env)).filterMap (·.1) = ks := by rfl)
    (hdb : (x == ("__debug__" : Str)) = false := by decide) (he : starEach (e :: es) X.env = (false, eval e X.env) :: starEach es X.env := by rfl)
    (hpl : ((backTo pos (starEach (e :: es) X.env)).any (·.1) || (backToKw pos (keywordEach kws X.env)).any (·.1.isNone)) = false := by rfl) :
    DE X g E m (.Call (.Name x p) (e :: es) kws pos) (fCallK fn n ks.length ix fs fk) := by
  obtain ⟨f, fd, h1, h2, h3, _, h5⟩ := C.ex
  exact de_callK (hr.mono hj) hG hg h2 h3 passN h1 (h5 _ (List.mem_of_getElem? hb)) ha hkw hall hks hdb he hpl
theorem cal_K0 (C : Cal X.prog X.w X.K X.mg X.base j x ps (spN X.K false fn) bs kbs) (hr : Room k X.A) (hG : X.A.guards = some []) (hg : Gl X x) (i : Nat) (ks : List Str) (ix : List Nat) (hkw : DK X g E m kws fk) (hb : kbs[i]? = some (0, ks, ix) := by rfl) (hj : j ≤ k := by decide)
    (hall : (backToKw pos (keywordEach kws X.env)).all (·.1.isSome) = true := by rfl) (hks : (backToKw pos (keywordEach kws X.env)).filterMap (·.1) = ks := by rfl)
    (hdb : (x == ("__debug__" : Str)) = false := by decide)
    (hpl : ((backTo pos (starEach [] X.env)).any (·.1) || (backToKw pos (keywordEach kws X.env)).any (·.1.isNone)) = false := by rfl) :
    DE X g E m (.Call (.Name x p) [] kws pos) (fCallK fn 0 ks.length ix fNil fk) := by
  obtain ⟨f, fd, h1, h2, h3, _, h5⟩ := C.ex
  exact de_callK0 (hr.mono hj) hG hg h2 h3 passN h1 (h5 _ (List.mem_of_getElem? hb)) hkw hall hks hdb hpl
end
section
variable {P : Program} {w : World} {K : PySem.W.Frag} {mg : Str → Option Value} {base : Heap} {x qual : Str} {params : Arguments} {body : List Stmt} {scope : Scope} {dvs : List V} {kws : List (Str × V)} {f : Addr} {fd : FuncData} {ps ks : List Str} {n : Nat} {ix : List Nat} {dd : List D}
/-- a keyword call binds (no defaults) -/
theorem kb_of (F : FunD K x qual params body scope [] kws f fd)
    (h : ∀ (kV doc pm : Value) (an : Option Addr) (cdv ct : Value) (us ws : List Value), us.length = n → ws.length = ks.length → bindArgs (PySem.W.fnOf x qual params body scope .none kV doc pm an cdv ct) ⟨us, ks.zip ws⟩ = pure (ps.zip (pick ix (us ++ ws)))) : KB K fd ps n ks ix := by
  obtain ⟨oc, od, dV, kV, doc, pm, an, cdv, ct, osl, rfl, lk, hcd, hD, hK⟩ := F.ex
  rcases hD with ⟨_, rfl⟩ | ⟨e, _⟩
  · exact fun s us ws _ h1 h2 => .of_eq (h kV doc pm an cdv ct us ws h1 h2)
  · exact absurd rfl e
theorem bs_0 (b : Binds K fd ps []) : ∃ (dvs : List V) (dss : List Value), Binds K fd ps dss ∧ Vals dvs dss ∧ ∀ F, IsAll K F dvs [] := ⟨[], [], b, .nil, fun _ => .nil⟩
theorem bs_1 (b : ∃ ds, Vals dvs ds ∧ Binds K fd ps ds) (h : ∀ F, IsAll K F dvs dd) : ∃ (dvs : List V) (dss : List Value), Binds K fd ps dss ∧ Vals dvs dss ∧ ∀ F, IsAll K F dvs dd := by
  obtain ⟨ds, h1, h2⟩ := b
  exact ⟨dvs, ds, h2, h1, h⟩
theorem all_0 {α : Type} {p : α → Prop} : ∀ a ∈ ([] : List α), p a := fun _ h => by cases h
theorem all_1 {α : Type} {p : α → Prop} {a : α} {l : List α} (h : p a) (r : ∀ b ∈ l, p b) : ∀ b ∈ a :: l, p b := fun b hb => by
  rcases List.mem_cons.mp hb with e | hb
  · rw [e]; exact h
  · exact r b hb
end
/-! ### a meaning behind a lock: nothing unfolds it, only its equation -/
theorem lock_ex (f : Fn) : ∃ g : Fn, g = f := ⟨f, rfl⟩
noncomputable def lock (f : Fn) : Fn := Classical.choose (lock_ex f)
theorem lock_eq (f : Fn) : lock f = f := Classical.choose_spec (lock_ex f)
theorem lock_at (f : Fn) (ds : List D) (q : D → Prop) (x : XD) : lock f ds q x = f ds q x := by rw [lock_eq]
/-! ### the law -/
abbrev lawStart (n : Nat) (a d : Addr) : Ro := some (.ref a) :: some (.ref d) :: List.replicate (n - 2) none
abbrev lawEnds : DEnds := ⟨fun _ => False, fun _ => False, fun _ => False, fun r => r = .bl true, fun _ _ => False⟩
def spLaw (K : PySem.W.Frag) : Sp := fun vs H Q _ => ∃ (a : Addr) (ns : List Int), vs = [.ref a] ∧ SqL K H a (ns.map V.int) ∧ ns.length ≤ 63 ∧ ∀ H', Q (.bl true) H'
section
variable {P : Program} {w : World} {K : PySem.W.Frag} {mg : Str → Option Value} {base : Heap} {x qual nm y : Str} {params : Arguments} {body0 body : List Stmt} {scope : Scope} {f : Addr} {fd : FuncData} {N : List Str} {k : Nat} {st0 : Stmt}
/-- the law: its first statement makes the deck (slot 1), the rest stands over data -/
theorem okLaw (F : FunD K x qual params body0 scope [] [] f fd) (S : FnScope N ["script"] scope) (hb : body0 = st0 :: body) (hN : 2 ≤ N.length)
    (h0 : ∀ (cdv : Value) (A : Around) (outer : List Env) (s : Shared) (H : Hp) (E : XK), Room k (A.deeper (envOfC qual scope s.heap.objs.size f cdv)) → (A.deeper (envOfC qual scope s.heap.objs.size f cdv)).guards = some [] →
      PS (cxOf CX0 P w K mg base N qual scope f cdv A outer s H E).nox st0 (tAsg (tCall (spDeck K nm) [] E (tCons (tVar 0) tNil)) (gName 1)))
    (hbody : ∀ (cdv : Value) (A : Around) (outer : List Env) (s : Shared) (H : Hp) (E : XK) (a d l : Addr), Room k (A.deeper (envOfC qual scope s.heap.objs.size f cdv)) → (A.deeper (envOfC qual scope s.heap.objs.size f cdv)).guards = some [] →
      ∃ m' fb, DSs (cxOf CX0 P w K mg base N qual scope f cdv A outer s H E).nox (some (nm, d, l)) E false [] [] m' body fb ∧ fb (lawStart N.length a d) lawEnds) :
    FnG P w K mg base CX0 (k + 1) f fd ["script"] (spLaw K) := by
  subst hb
  refine okRaw F S (fun vs H Q E ⟨a, ns, h, _⟩ => by rw [h]; rfl) fun cdv A outer s H vs Q E hr hG ⟨a, ns, hv, hS, hl, hq⟩ => ?_
  subst hv
  have hb2 := fun a d l => hbody cdv A outer s H E a d l hr hG
  let t2 : TS := fun D σ H1 => ∃ (d l : Addr) (m' : List Nat) (fb : FS), DSs (cxOf CX0 P w K mg base N qual scope f cdv A outer s H E).nox (some (nm, d, l)) E false [] [] m' body fb ∧ tS K (some (nm, d, l)) E false [] [] m' fb D σ H1
  refine ⟨tSeq (tAsg (tCall (spDeck K nm) [] E (tCons (tVar 0) tNil)) (gName 1)) t2, PSs.nox (pss_cons (h0 cdv A outer s H E hr hG) ⟨fun pins s' σ H' D I q => ?_⟩), ?_⟩
  · obtain ⟨d, l, m', fb, h1, h2⟩ := q
    exact h1.run pins s' σ H' D I h2
  · have hs : L2.start N [V.ref a] = some (.ref a) :: List.replicate (N.length - 1) none := rfl
    refine ⟨.ref a, by rw [hs]; rfl, a, ns, rfl, hS, hl, fun H' d l ex nd nl j => ?_⟩
    obtain ⟨m', fb, h1, h2⟩ := hb2 a d l
    refine ⟨d, l, m', fb, h1, H', fun _ => none, fun _ => none, lawStart N.length a d, lawEnds, ⟨⟨fun _ _ _ e => e, j, fun _ _ e => (nomatch e), Ex.refl _, fun _ _ => rfl, fun b hb => ⟨rfl, Gd.J.has (g := some (nm, d, l)) j hb⟩⟩, ?_, ?_, fun _ => 0, fun i hi => (by cases hi), fun i hi => (by cases hi)⟩, h2, fun _ _ _ _ _ _ z => z.elim, fun _ _ _ _ _ _ z => z.elim, fun _ _ _ _ _ _ z => z.elim, ?_, XE.none⟩
    · rw [hs, List.length_set, List.length_cons, List.length_cons, List.length_cons, List.length_replicate, List.length_replicate]
      omega
    · intro i b hi _
      match i, hi with
      | 0, hi => cases hi; exact ⟨.ref a, by rw [hs]; rfl, .ref a⟩
      | 1, hi =>
        cases hi
        exact ⟨.ref d, List.getElem?_set_self (by rw [hs, List.length_cons, List.length_replicate]; omega), .ref d⟩
      | i + 2, hi =>
        have : (List.replicate (N.length - 2) (none : Option D))[i]? = some (some b) := hi
        rw [List.getElem?_replicate] at this
        split at this <;> cases this
    · intro v H2 F2 r _ hi hr
      have hr : r = .bl true := hr
      subst hr
      have hi : Is K F2 v (.bl true) := hi
      cases hi
      exact hq H2
end
/-! ### the deck's numbers -/
theorem fmod_small (i : Int) {j : Int} (h : 0 < j) (h2 : j < 2 ^ 40) : -(2 ^ 40) < i.fmod j ∧ i.fmod j < 2 ^ 40 := by
  have h3 := Int.fmod_lt_of_pos i h
  have h4 := Int.fmod_nonneg_of_pos i h
  exact ⟨by omega, by omega⟩
theorem cut_ints (ns : List Int) (h : ns.length ≤ 63) : ∃ cs : List Int, cutV (ns.map V.int) none (some 63) = cs.map V.int ∧ cs.length ≤ 63 :=
  ⟨_, by unfold cutV; rw [← List.map_drop, ← List.map_take], by rw [List.length_take, List.length_drop]; omega⟩
theorem dgetK {H : Hp} {d : Addr} {kvs : List (Key × V)} {k : Key} {v : V} (e : H d = some (.dK kvs)) (h : valV kvs k = some v) : DGet H d (kV k) (some v) := h ▸ DGet.k e
theorem dputK {H : Hp} {d : Addr} {kvs kvs' : List (Key × V)} {k : Key} {v : V} (e : H d = some (.dK kvs)) (hl : kvs.length < sizeLine) (h : putK kvs k v = kvs') : DPut H d (kV k) v (upd H d (.dK kvs')) := h ▸ DPut.k e hl
theorem snoc_cases (l : List Int) : l = [] ∨ ∃ cs c, l = cs ++ [c] := by
  rcases List.eq_nil_or_concat l with h | ⟨cs, c, h⟩
  · exact .inl h
  · exact .inr ⟨cs, c, by rw [h, List.concat_eq_append]⟩
abbrev rModN : R2 := rI (fun _ j => j ≠ 0) fun i j => .int (i.fmod j)
abbrev rMulO : R2 := rI IntMulOk fun i j => .int (i * j)
abbrev rAddI : R2 := rI0 fun i j => .int (i + j)
abbrev rDivO : R2 := rI DivOk fun i j => .int (i.fdiv j)
abbrev rInt1 : List V → Hp → VK → Prop := fun xs H Q => (∃ i, xs = [.int i] ∧ Q (.int i) H) ∨ ∃ k, xs = [.bl k] ∧ Q (.int (if k then 1 else 0)) H
end DL

/-! DL8: a law's head by facts. -/
namespace DL
open PySem PySem.Spec PyProof.Rows L2
/-! ### what the head tells -/
abbrev AlC : Type := He.AlD × Bool
def obsC (n : Nat) (fa : List He.Fa) (fn : List He.DefD) (ex : PySem.W.Frag → Bool) (g : Addr → Option Obj) : AlC := (He.obsD fa fn (He.frG g (He.asD g n)), ex (He.frG g (He.asD g n)))
def valC (fn : List He.DefD) : AlC := (He.valD fn, true)
def hookC (n : Nat) (fa : List He.Fa) (fn : List He.DefD) (ex : PySem.W.Frag → Bool) : PySem.W.Hook where
  α := AlC
  obs := fun s => obsC n fa fn ex s.heap.get?
  val := fun _ => valC fn
  says := fun _ h => ∃ K : PySem.W.Frag, K.In h ∧ He.SaysD fa fn K ∧ ex K = true
  of := fun _ _ e => ⟨_, He.frG_in, congrArg (fun z : AlC => z.1) e, congrArg (fun z : AlC => z.2) e⟩
  keeps := fun _ _ _ ⟨K, hK, c⟩ k => ⟨K, PySem.W.Frag.In.keeps hK k, c⟩
theorem obsC_eq {n : Nat} {fa : List He.Fa} {fn : List He.DefD} {ex : PySem.W.Frag → Bool} {g : Addr → Option Obj} {s : Shared} (h : ∀ a, g a = s.heap.get? a) : obsC n fa fn ex g = (hookC n fa fn ex).obs s := by
  obtain rfl : g = s.heap.get? := funext h
  rfl
/-- the module's name x is this plain constant -/
def conB (K : PySem.W.Frag) (x : Str) (d : He.Dv) : Bool := match PySem.W.nsIn K mainGlobals x with
  | some (some u) => He.relB (d.v K) u
  | _ => false
def bltB (K : PySem.W.Frag) (x : Str) (n : String) : Bool := match PySem.W.nsIn K mainGlobals x with
  | some (some (.builtin m)) => decide (m = n)
  | _ => false
section
variable {K : PySem.W.Frag} {h : Heap} {mg : Str → Option Value} {x : Str}
theorem conB_ok (X : K.In h) (G : h.Ns mainGlobals mg) {d : He.Dv} {dd : D} (c : conB K x d = true) (hd : ∀ F, Is K F (d.v K) dd) : Con K mg x dd := by
  unfold conB at c
  split at c
  · rename_i u e
    exact ⟨_, u, PySem.W.mg_of X G e, He.relB_ok c, hd⟩
  · cases c
theorem bltB_ok (X : K.In h) (G : h.Ns mainGlobals mg) {n : String} (c : bltB K x n = true) : mg x = some (.builtin n) := by
  unfold bltB at c
  split at c
  · rename_i m e
    rw [← of_decide_eq_true c]
    exact PySem.W.mg_of X G e
  · cases c
theorem bltM {a b : Bool} (h : (a && b) = true) : a = true ∧ b = true := Bool.and_eq_true_iff.mp h
end
theorem walk_facts {l : PySem.W.OpenLaw} {n k : Nat} {q : Program} {loose : List Str} {XP : (Str → Option Value) → Heap → Prop} {YP : World → Heap → Prop} {d : DefRec} {x : Str}
    (hn : l.most = some n) (hn2 : n ≤ 63) (hdf : d.params.defaults = []) (hr : Room k callerA)
    (F : ∀ (w : World) (mg : Str → Option Value) (fa : Addr) (h : Heap), YP w h → h.Ns mainGlobals mg → mg d.name = some (.ref fa) →
      ∃ (K : PySem.W.Frag) (fd : FuncData), K.In h ∧ (∀ (s : Shared) (u : Value), BindsTo s fd ⟨[u], []⟩ [(x, u)]) ∧
        ∀ base : Heap, K.In base → base.Ns mainGlobals mg → FnG l.prog w K mg base CX0 k fa fd [x] (spLaw K)) :
    PySem.W.WalkO q loose XP YP l.row.toRowW d [] (fun f vs => PySem.call f vs) := by
  refine Att.attach_callB hn hdf fun w s₀ s mg mb fa o pm cd doc a vs ns G Y _ _ _ hmg hobj hints hlen hbits hg => ?_
  obtain ⟨K, fd, kin, hb, hF⟩ := F w mg fa _ Y G.T.g hmg
  exact run_law kin G.T.g G.T.b G.T.builtins G.T.nolimit hg hobj hints (Nat.le_trans hlen (Nat.le_trans hn2 (by decide))) hr hF hb fun H hS => ⟨a, ns, rfl, hS, Nat.le_trans hlen hn2, fun _ => rfl⟩
end DL

/-! DL9: for the plain laws: loops by an invariant, == of data, numbers. -/
namespace DL
open PySem PySem.Spec PyProof.Rows L2
theorem forL_inv {t : FG} {b : FS} {d : DEnds} (I : List D → Ro → Prop) (h0 : ∀ ρ, I [] ρ → d.nx ρ)
    (h1 : ∀ a r ρ, I (a :: r) ρ → ∀ nx : Ro → Prop, (∀ ρ', I r ρ' → nx ρ') → t a ρ fun ρ1 => b ρ1 { d with nx := nx, ct := nx, bk := d.nx }) : ∀ (l : List D) (ρ : Ro), I l ρ → forL t b d l ρ
  | [], ρ, h => h0 ρ h
  | a :: r, ρ, h => h1 a r ρ h _ fun ρ' h' => forL_inv I h0 h1 r ρ' h'
theorem rangeD_len (lo : Int) (n : Nat) : (rangeD lo n).length = n := by simp [rangeD]
theorem isTy_int_int : isTy "int" "int" = true := by decide +kernel
theorem isTy_bool_int : isTy "bool" "int" = false := by decide +kernel
theorem isTy_bool_bool : isTy "bool" "bool" = true := by decide +kernel
theorem isTy_int_bool : isTy "int" "bool" = true := by decide +kernel
theorem isTy_tuple_tuple : isTy "tuple" "tuple" = true := by decide +kernel
theorem isTy_tuple_list : isTy "tuple" "list" = false := by decide +kernel
theorem isTy_tuple_int : isTy "tuple" "int" = false := by decide +kernel
theorem isTy_list_list : isTy "list" "list" = true := by decide +kernel
theorem isTy_int_tuple : isTy "int" "tuple" = false := by decide +kernel
theorem isTy_int_str : isTy "int" "str" = false := by decide +kernel
theorem isTy_str_str : isTy "str" "str" = true := by decide +kernel
abbrev pr (a b : Int) : D := .tup [.int a, .int b]
theorem eqD_int (a b : Int) : eqD (.int a) (.int b) = decide (a = b) := rfl
theorem eqD_str (a b : Str) : eqD (.str a) (.str b) = decide (a = b) := by
  show (a == b) = decide (a = b)
  rw [Bool.beq_eq_decide_eq]
theorem eqD_tup (xs ys : List D) : eqD (.tup xs) (.tup ys) = PyData.eqvAll (D.pys xs) (D.pys ys) := rfl
theorem eqD_lst (xs ys : List D) : eqD (.lst xs) (.lst ys) = PyData.eqvAll (D.pys xs) (D.pys ys) := rfl
theorem eqvs_nil : PyData.eqvAll (D.pys []) (D.pys []) = true := rfl
theorem eqvs_cons (x y : D) (xs ys : List D) : PyData.eqvAll (D.pys (x :: xs)) (D.pys (y :: ys)) = (eqD x y && PyData.eqvAll (D.pys xs) (D.pys ys)) := rfl
theorem eqD_pr (a b c d : Int) : eqD (pr a b) (pr c d) = decide (a = c ∧ b = d) := by
  rw [eqD_tup, eqvs_cons, eqvs_cons, eqvs_nil, eqD_int, eqD_int, Bool.and_true]
  by_cases h : a = c <;> by_cases h2 : b = d <;> simp [h, h2]
mutual
theorem eqD_self : ∀ d : D, eqD d d = true
  | .non => rfl
  | .bl b => by show (b == b) = true; exact beq_self_eq_true b
  | .int i => by rw [eqD_int]; exact decide_eq_true rfl
  | .str s => by rw [eqD_str]; exact decide_eq_true rfl
  | .tup xs => by rw [eqD_tup]; exact eqvs_self xs
  | .lst xs => by rw [eqD_lst]; exact eqvs_self xs
  | .ref _ => rfl
theorem eqvs_self : ∀ xs : List D, PyData.eqvAll (D.pys xs) (D.pys xs) = true
  | [] => rfl
  | x :: xs => by rw [eqvs_cons, eqD_self x, eqvs_self xs] <;> rfl
end
theorem mulOk_l {a b : Int} (h1 : -18446744073709551616 < a) (h2 : a < 18446744073709551616) : IntMulOk a b := IntMulOk.of_left (intBits_le_64 (by omega) (by omega))
theorem mulOk_r {a b : Int} (h1 : -18446744073709551616 < b) (h2 : b < 18446744073709551616) : IntMulOk a b := IntMulOk.of_right (intBits_le_64 (by omega) (by omega))
theorem divOk_s {a b : Int} (h0 : b ≠ 0) (h1 : -1073741824 < b) (h2 : b < 1073741824) : DivOk a b := ⟨h0, PyProof.noPylong_small (by omega)⟩
/-! ### the readings of operators at data -/
section
variable (q : D → Prop) (x : XD)
theorem ev_add_int (i j : Int) : sAdd (.int i) (.int j) q x = q (.int (i + j)) := rfl
theorem ev_add_lst (xs ys : List D) : sAdd (.lst xs) (.lst ys) q x = (xs.length + ys.length ≤ LN ∧ q (.lst (xs ++ ys))) := rfl
theorem ev_add_tup (xs ys : List D) : sAdd (.tup xs) (.tup ys) q x = (xs.length + ys.length ≤ LN ∧ q (.tup (xs ++ ys))) := rfl
theorem ev_add_str (a b : Str) : sAdd (.str a) (.str b) q x = (a.length + b.length ≤ LN ∧ q (.str (a ++ b))) := rfl
theorem ev_cat (xs ys : List D) : sCat (.lst xs) (.lst ys) q x = (xs.length + ys.length ≤ LN ∧ q (.lst (xs ++ ys))) := rfl
theorem ev_I (C : Int → Int → Prop) (h : Int → Int → D) (i j : Int) : sI C h (.int i) (.int j) q x = (C i j ∧ q (h i j)) := rfl
theorem ev_I0 (h : Int → Int → D) (i j : Int) : sI0 h (.int i) (.int j) q x = q (h i j) := rfl
theorem ev_cmp (h : Int → Int → Bool) (i j : Int) : sCmp h (.int i) (.int j) q x = q (.bl (h i j)) := rfl
theorem ev_sub (i j : Int) : sSub (.int i) (.int j) q x = q (.int (i - j)) := rfl
theorem ev_mul (i j : Int) : sMul (.int i) (.int j) q x = (IntMulOk i j ∧ q (.int (i * j))) := rfl
theorem ev_div (i j : Int) : sDiv (.int i) (.int j) q x = (DivOk i j ∧ q (.int (i.fdiv j))) := rfl
theorem ev_mod (i j : Int) : sMod (.int i) (.int j) q x = (j ≠ 0 ∧ q (.int (i.fmod j))) := rfl
theorem ev_pow (i j : Int) : sPow (.int i) (.int j) q x = (CPow i j ∧ q (.int (i ^ j.toNat))) := rfl
theorem ev_max2 (i j : Int) : sMax2 (.int i) (.int j) q x = q (.int (if j > i then j else i)) := rfl
theorem ev_min2 (i j : Int) : sMin2 (.int i) (.int j) q x = q (.int (if j < i then j else i)) := rfl
theorem ev_gcd (i j : Int) : sGcd (.int i) (.int j) q x = q (.int (gcdI i j)) := rfl
theorem ev_neg (i : Int) : sNeg (.int i) q x = q (.int (-i)) := rfl
theorem ev_abs (i : Int) : sAbs (.int i) q x = q (.int (absI i)) := rfl
theorem ev_int (i : Int) : sInt (.int i) q x = q (.int i) := rfl
theorem ev_intb (b : Bool) : sInt (.bl b) q x = q (.int (if b then 1 else 0)) := rfl
theorem ev_len_tup (xs : List D) : sLen (.tup xs) q x = q (.int xs.length) := rfl
theorem ev_len_lst (xs : List D) : sLen (.lst xs) q x = q (.int xs.length) := rfl
theorem ev_tuple_tup (xs : List D) : sTuple (.tup xs) q x = q (.tup xs) := rfl
theorem ev_tuple_lst (xs : List D) : sTuple (.lst xs) q x = q (.tup xs) := rfl
theorem ev_list_tup (xs : List D) : sList (.tup xs) q x = q (.lst xs) := rfl
theorem ev_list_lst (xs : List D) : sList (.lst xs) q x = q (.lst xs) := rfl
theorem ev_rev (xs : List D) : sRev (.lst xs) q x = q (.lst xs.reverse) := rfl
theorem ev_rep (xs : List D) (k : Int) : sRep (.lst xs) (.int k) q x = (xs.length * k.toNat ≤ LN ∧ -1000000 ≤ k ∧ k ≤ 1000000 ∧ q (.lst (List.replicate k.toNat xs).flatten)) := rfl
theorem ev_ix_tup {xs : List D} {i : Int} {d : D} (h : atI xs i = some d) : sIx (.tup xs) (.int i) q x = q d := by unfold sIx; simp only [h]
theorem ev_ix_lst {xs : List D} {i : Int} {d : D} (h : atI xs i = some d) : sIx (.lst xs) (.int i) q x = q d := by unfold sIx; simp only [h]
theorem atI_nat {xs : List D} {n : Nat} {d : D} (h : xs[n]? = some d) : atI xs (n : Int) = some d := by
  have hn := (List.getElem?_eq_some_iff.mp h).1
  unfold atI ixN
  rw [if_pos (by omega), if_pos (by omega)]
  exact h
theorem ev_ix0t (a : D) (l : List D) : sIx (.tup (a :: l)) (.int 0) q x = q a := ev_ix_tup q x (atI_nat (n := 0) rfl)
theorem ev_ix1t (a b : D) (l : List D) : sIx (.tup (a :: b :: l)) (.int 1) q x = q b := ev_ix_tup q x (atI_nat (n := 1) rfl)
theorem ev_ix2t (a b c : D) (l : List D) : sIx (.tup (a :: b :: c :: l)) (.int 2) q x = q c := ev_ix_tup q x (atI_nat (n := 2) rfl)
theorem ev_ix0l (a : D) (l : List D) : sIx (.lst (a :: l)) (.int 0) q x = q a := ev_ix_lst q x (atI_nat (n := 0) rfl)
theorem ev_ix1l (a b : D) (l : List D) : sIx (.lst (a :: b :: l)) (.int 1) q x = q b := ev_ix_lst q x (atI_nat (n := 1) rfl)
theorem ev_eq_int (n : Bool) (i j : Int) : sEq n (.int i) (.int j) q x = q (.bl (n ^^ decide (i = j))) := rfl
theorem ev_eq_str (n : Bool) (i j : Str) : sEq n (.str i) (.str j) q x = q (.bl (n ^^ decide (i = j))) := rfl
theorem ev_isn (n : Bool) (a : D) : sIsN n a .non q x = q (.bl (n ^^ a.isNon)) := rfl
theorem ev_ty_non (n : String) : sIsi n .non q x = q (.bl (isTy n "NoneType")) := rfl
theorem ev_ty_bl (n : String) (b : Bool) : sIsi n (.bl b) q x = q (.bl (isTy n "bool")) := rfl
theorem ev_ty_int (n : String) (i : Int) : sIsi n (.int i) q x = q (.bl (isTy n "int")) := rfl
theorem ev_ty_str (n : String) (s : Str) : sIsi n (.str s) q x = q (.bl (isTy n "str")) := rfl
theorem ev_ty_tup (n : String) (xs : List D) : sIsi n (.tup xs) q x = q (.bl (isTy n "tuple")) := rfl
theorem ev_ty_lst (n : String) (xs : List D) : sIsi n (.lst xs) q x = q (.bl (isTy n "list")) := rfl
end
/-! ### numbers -/
theorem gcdI_eq (a b : Int) : gcdI a b = (Int.gcd a b : Int) := rfl
theorem gcdI_dvd_l (a b : Int) : gcdI a b ∣ a := Int.gcd_dvd_left ..
theorem gcdI_dvd_r (a b : Int) : gcdI a b ∣ b := Int.gcd_dvd_right ..
theorem gcdI_pos {a b : Int} (h : b ≠ 0) : 0 < gcdI a b := by
  have : 0 < Int.gcd a b := Int.gcd_pos_of_ne_zero_right a h
  rw [gcdI_eq]; omega
theorem fmod_zero_iff {a b : Int} (hb : 0 < b) : a.fmod b = 0 ↔ b ∣ a := by
  rw [Int.fmod_eq_emod_of_nonneg a (by omega)]
  exact ⟨Int.dvd_of_emod_eq_zero, Int.emod_eq_zero_of_dvd⟩
theorem whole_iff {a b : Int} (hb : 0 < b) (g : gcdI a b = 1) : a.fmod b = 0 ↔ b = 1 := by
  rw [fmod_zero_iff hb]
  constructor
  · intro h
    have : b ∣ gcdI a b := by rw [gcdI_eq]; exact Int.dvd_coe_gcd h (Int.dvd_refl b)
    rw [g] at this
    exact Int.eq_one_of_dvd_one (by omega) this
  · rintro rfl
    exact Int.one_dvd a
/-- p/q = -(r/s): whole together -/
theorem dvd_swap {p q r s : Int} (hq : q ≠ 0) (hs : s ≠ 0) (h : p * s = -r * q) : q ∣ p ↔ s ∣ r := by
  constructor
  · rintro ⟨k, rfl⟩
    refine ⟨-k, ?_⟩
    have : q * (k * s) = q * (-r) := by rw [← Int.mul_assoc, h, Int.mul_comm]
    have := Int.eq_of_mul_eq_mul_left hq this
    rw [Int.mul_neg, Int.mul_comm s k]; omega
  · rintro ⟨k, rfl⟩
    refine ⟨-k, ?_⟩
    have : s * p = s * (-(k * q)) := by rw [Int.mul_comm s p, h, Int.mul_neg, ← Int.mul_assoc, Int.neg_mul]
    have := Int.eq_of_mul_eq_mul_left hs this
    rw [this, Int.mul_neg, Int.mul_comm]
end DL

namespace K54
open PySem PySem.Spec PyProof.Rows L2 DL
def top (i : Nat) : Stmt := (PySem.Challenge.rw_twicestep_k54_verdicts_of_named_rules).prog.main.body.getD i (.Pass ⟨0, 0, 0, 0⟩)
abbrev FnP (K : PySem.W.Frag) (x : Str) (st : Stmt) (dvs : List V) (f : Addr) (fd : FuncData) : Prop := FunD K x x (defArgs st) (defBody st) (defScope st) dvs [] f fd
abbrev c_FORMULA : D := .str "formula"
abbrev c_LAID : D := .str "laid"
abbrev c_MOST_BOTTOM : D := .int 12
abbrev c_MOST_TOP : D := .int 40
abbrev c_NOTHING : D := .str "nothing"
structure Txt (K : PySem.W.Frag) (mg : Str → Option Value) : Prop where
  n_abs : mg "abs" = none
  n_bool : mg "bool" = none
  n_int : mg "int" = none
  n_isinstance : mg "isinstance" = none
  n_len : mg "len" = none
  n_list : mg "list" = none
  n_max : mg "max" = none
  n_range : mg "range" = none
  n_repr : mg "repr" = none
  n_tuple : mg "tuple" = none
  m_gcd : mg "gcd" = some (.builtin "math.gcd")
  c_FORMULA : Con K mg "FORMULA" c_FORMULA
  c_LAID : Con K mg "LAID" c_LAID
  c_MOST_BOTTOM : Con K mg "MOST_BOTTOM" c_MOST_BOTTOM
  c_MOST_TOP : Con K mg "MOST_TOP" c_MOST_TOP
  c_NOTHING : Con K mg "NOTHING" c_NOTHING
abbrev N_is_whole : List Str := ["thing"]
abbrev p_is_whole : List Str := ["thing"]
theorem sc_is_whole : FnScope N_is_whole p_is_whole (defScope (top 5)) := ⟨rfl, rfl, rfl, by decide +kernel, rfl, by decide +kernel, by decide +kernel⟩
abbrev N_is_pair_value : List Str := ["thing"]
abbrev p_is_pair_value : List Str := ["thing"]
theorem sc_is_pair_value : FnScope N_is_pair_value p_is_pair_value (defScope (top 7)) := ⟨rfl, rfl, rfl, by decide +kernel, rfl, by decide +kernel, by decide +kernel⟩
abbrev N_is_parameter : List Str := ["thing"]
abbrev p_is_parameter : List Str := ["thing"]
theorem sc_is_parameter : FnScope N_is_parameter p_is_parameter (defScope (top 14)) := ⟨rfl, rfl, rfl, by decide +kernel, rfl, by decide +kernel, by decide +kernel⟩
abbrev N_need_parameters : List Str := ["some", "t", "thing"]
abbrev p_need_parameters : List Str := ["some", "t"]
theorem sc_need_parameters : FnScope N_need_parameters p_need_parameters (defScope (top 15)) := ⟨rfl, rfl, rfl, by decide +kernel, rfl, by decide +kernel, by decide +kernel⟩
abbrev N_need_t : List Str := ["some", "t"]
abbrev p_need_t : List Str := ["some", "t"]
theorem sc_need_t : FnScope N_need_t p_need_t (defScope (top 16)) := ⟨rfl, rfl, rfl, by decide +kernel, rfl, by decide +kernel, by decide +kernel⟩
abbrev N_total : List Str := ["some", "top", "bottom", "factors", "near", "far", "one", "other"]
abbrev p_total : List Str := ["some"]
theorem sc_total : FnScope N_total p_total (defScope (top 17)) := ⟨rfl, rfl, rfl, by decide +kernel, rfl, by decide +kernel, by decide +kernel⟩
abbrev N_whole : List Str := ["k"]
abbrev p_whole : List Str := ["k"]
theorem sc_whole : FnScope N_whole p_whole (defScope (top 18)) := ⟨rfl, rfl, rfl, by decide +kernel, rfl, by decide +kernel, by decide +kernel⟩
abbrev N_is_zero : List Str := ["pair"]
abbrev p_is_zero : List Str := ["pair"]
theorem sc_is_zero : FnScope N_is_zero p_is_zero (defScope (top 19)) := ⟨rfl, rfl, rfl, by decide +kernel, rfl, by decide +kernel, by decide +kernel⟩
abbrev N_is_integer_pair : List Str := ["pair"]
abbrev p_is_integer_pair : List Str := ["pair"]
theorem sc_is_integer_pair : FnScope N_is_integer_pair p_is_integer_pair (defScope (top 20)) := ⟨rfl, rfl, rfl, by decide +kernel, rfl, by decide +kernel, by decide +kernel⟩
abbrev N_steady_verdict : List Str := ["x", "t"]
abbrev p_steady_verdict : List Str := ["x", "t"]
theorem sc_steady_verdict : FnScope N_steady_verdict p_steady_verdict (defScope (top 21)) := ⟨rfl, rfl, rfl, by decide +kernel, rfl, by decide +kernel, by decide +kernel⟩
abbrev N_hermite_verdict : List Str := ["x", "t"]
abbrev p_hermite_verdict : List Str := ["x", "t"]
theorem sc_hermite_verdict : FnScope N_hermite_verdict p_hermite_verdict (defScope (top 22)) := ⟨rfl, rfl, rfl, by decide +kernel, rfl, by decide +kernel, by decide +kernel⟩
abbrev N_bessel_verdict : List Str := ["x", "l", "t"]
abbrev p_bessel_verdict : List Str := ["x", "l", "t"]
theorem sc_bessel_verdict : FnScope N_bessel_verdict p_bessel_verdict (defScope (top 23)) := ⟨rfl, rfl, rfl, by decide +kernel, rfl, by decide +kernel, by decide +kernel⟩
abbrev N_gegenbauer_verdict : List Str := ["x", "l"]
abbrev p_gegenbauer_verdict : List Str := ["x", "l"]
theorem sc_gegenbauer_verdict : FnScope N_gegenbauer_verdict p_gegenbauer_verdict (defScope (top 24)) := ⟨rfl, rfl, rfl, by decide +kernel, rfl, by decide +kernel, by decide +kernel⟩
abbrev N_laguerre_verdict : List Str := ["x", "l"]
abbrev p_laguerre_verdict : List Str := ["x", "l"]
theorem sc_laguerre_verdict : FnScope N_laguerre_verdict p_laguerre_verdict (defScope (top 25)) := ⟨rfl, rfl, rfl, by decide +kernel, rfl, by decide +kernel, by decide +kernel⟩
abbrev N_charlier_verdict : List Str := ["x", "t"]
abbrev p_charlier_verdict : List Str := ["x", "t"]
theorem sc_charlier_verdict : FnScope N_charlier_verdict p_charlier_verdict (defScope (top 26)) := ⟨rfl, rfl, rfl, by decide +kernel, rfl, by decide +kernel, by decide +kernel⟩
abbrev N_meixner_verdict : List Str := ["x", "l", "t"]
abbrev p_meixner_verdict : List Str := ["x", "l", "t"]
theorem sc_meixner_verdict : FnScope N_meixner_verdict p_meixner_verdict (defScope (top 27)) := ⟨rfl, rfl, rfl, by decide +kernel, rfl, by decide +kernel, by decide +kernel⟩
abbrev N__law_deck : List Str := ["script", "mixed", "cell"]
abbrev p__law_deck : List Str := ["script"]
theorem sc__law_deck : FnScope N__law_deck p__law_deck (defScope (top 29)) := ⟨rfl, rfl, rfl, by decide +kernel, rfl, by decide +kernel, by decide +kernel⟩
abbrev N__law_draw : List Str := ["deck", "many", "number", "cell"]
abbrev p__law_draw : List Str := ["deck", "many"]
theorem sc__law_draw : FnScope N__law_draw p__law_draw (defScope (top 30)) := ⟨rfl, rfl, rfl, by decide +kernel, rfl, by decide +kernel, by decide +kernel⟩
abbrev N__law_pick : List Str := ["deck", "some"]
abbrev p__law_pick : List Str := ["deck", "some"]
theorem sc__law_pick : FnScope N__law_pick p__law_pick (defScope (top 31)) := ⟨rfl, rfl, rfl, by decide +kernel, rfl, by decide +kernel, by decide +kernel⟩
abbrev N__law_common : List Str := ["one", "other", "turn"]
abbrev p__law_common : List Str := ["one", "other"]
theorem sc__law_common : FnScope N__law_common p__law_common (defScope (top 32)) := ⟨rfl, rfl, rfl, by decide +kernel, rfl, by decide +kernel, by decide +kernel⟩
abbrev N__law_pair : List Str := ["top", "bottom", "part"]
abbrev p__law_pair : List Str := ["top", "bottom"]
theorem sc__law_pair : FnScope N__law_pair p__law_pair (defScope (top 33)) := ⟨rfl, rfl, rfl, by decide +kernel, rfl, by decide +kernel, by decide +kernel⟩
abbrev N__law_is_whole : List Str := ["some", "top", "bottom", "x", "y"]
abbrev p__law_is_whole : List Str := ["some"]
theorem sc__law_is_whole : FnScope N__law_is_whole p__law_is_whole (defScope (top 34)) := ⟨rfl, rfl, rfl, by decide +kernel, rfl, by decide +kernel, by decide +kernel⟩
abbrev N__law_named_verdict : List Str := ["word", "some", "x", "l", "t"]
abbrev p__law_named_verdict : List Str := ["word", "some"]
theorem sc__law_named_verdict : FnScope N__law_named_verdict p__law_named_verdict (defScope (top 35)) := ⟨rfl, rfl, rfl, by decide +kernel, rfl, by decide +kernel, by decide +kernel⟩
abbrev N__law_parameter : List Str := ["deck", "may_be_nil", "way", "top", "bottom"]
abbrev p__law_parameter : List Str := ["deck", "may_be_nil"]
theorem sc__law_parameter : FnScope N__law_parameter p__law_parameter (defScope (top 36)) := ⟨rfl, rfl, rfl, by decide +kernel, rfl, by decide +kernel, by decide +kernel⟩
abbrev N__law_near : List Str := ["deck", "x", "top", "bottom", "found"]
abbrev p__law_near : List Str := ["deck", "x"]
theorem sc__law_near : FnScope N__law_near p__law_near (defScope (top 37)) := ⟨rfl, rfl, rfl, by decide +kernel, rfl, by decide +kernel, by decide +kernel⟩
abbrev N_law : List Str := ["script", "deck", "turn", "x", "h", "l", "t", "told", "again", "due", "less", "far", "over"]
abbrev p_law : List Str := ["script"]
theorem sc_law : FnScope N_law p_law (defScope (top 38)) := ⟨rfl, rfl, rfl, by decide +kernel, rfl, by decide +kernel, by decide +kernel⟩
section
variable {P : Program} {w : World} {K : PySem.W.Frag} {mg : Str → Option Value} {base : Heap} {f : Addr} {fd : FuncData} {k : Nat}
theorem ok_deck (F : FnP K "_law_deck" (top 29) [] f fd) (n_int : mg "int" = none) (n_list : mg "list" = none) : FnG P w K mg base CX0 (k + 1) f fd ["script"] (spDeck K "cells") := by
  refine okRaw F sc__law_deck (fun vs H Q E h => ?_) fun cdv A outer s H vs Q E hr hG h => ?_
  · obtain ⟨a, ns, rfl, _⟩ := h
    rfl
  refine ⟨_, pss_cons (ps_set (i := 1) sc__law_deck.nd rfl (Or.inl rfl) pe_int rfl (Or.inl rfl))
    (pss_cons (ps_for PassesOwn.never rfl (pi_list (pe_slice sl_list (pv 0) po_none (po_some pe_int)))
      (pg_name (i := 2) sc__law_deck.nd rfl (Or.inl rfl) (Or.inl rfl))
      (pss_one (ps_set (i := 1) sc__law_deck.nd rfl (Or.inl rfl) (pe_op op_modN (pe_callTy call_int1 rfl n_int (by decide +kernel) (pa_cons (pe_op op_add (pe_op op_add (pe_op op_mulO (pv 1) pe_int) (pe_op op_modN (pe_callTy call_int1 rfl n_int (by decide +kernel) (pa_cons (pv 2) pa_nil)) pe_int)) pe_int) pa_nil)) pe_int) rfl (Or.inl rfl))))
    (pss_one (ps_ret (pe_disp (pps_cons pe_str (pe_revL (pe_callTy call_list_of rfl n_list (by decide +kernel) (pa_cons (pe_slice sl_list (pv 0) po_none (po_some pe_int)) pa_nil))) (pps_cons pe_str (pv 1) (pps_cons pe_str pe_int pps_nil))) rfl rfl (by simp) (by decide))))), ?_⟩
  obtain ⟨a, ns, rfl, hS, hl, hq⟩ := h
  obtain ⟨cs, hcs, hcl⟩ := cut_ints ns hl
  refine ⟨_, rfl, _, rfl, _, _, rfl, hS, fun p hp => ?_⟩
  refine ⟨_, rfl, ⟨_, .inl (.inl upd_same)⟩, ?_⟩
  rw [hcs]
  have e1 : Ex H (upd H p (.lst (cs.map V.int))) := upd_ex hp
  refine ⟨fun i m σ H' => m = cs.length - i ∧ i ≤ cs.length ∧ H' = upd H p (.lst (cs.map V.int)) ∧ ∃ mi c, (-(2 ^ 40) < mi ∧ mi < 2 ^ 40) ∧ σ = [some (V.ref a), some (.int mi), c],
    ⟨_, rfl, Nat.zero_le _, rfl, _, none, ⟨by omega, by omega⟩, rfl⟩, ?_⟩
  rintro i m σ H' ⟨rfl, hi, rfl, mi, c, hm, rfl⟩
  by_cases hlt : i < cs.length
  · refine .inr ⟨⟨_, V.int cs[i], .inl (.inl upd_same), by rw [List.getElem?_map, List.getElem?_eq_getElem hlt]; rfl⟩, fun σ2 H2 => ∃ mi c, H2 = upd H p (.lst (cs.map V.int)) ∧ (-(2 ^ 40) < mi ∧ mi < 2 ^ 40) ∧ σ2 = [some (V.ref a), some (.int mi), c], ?_, ?_⟩
    · rintro σ2 H2 ⟨mi, c, rfl, h1, rfl⟩
      exact ⟨_, Nat.sub_lt_sub_left hlt (Nat.lt_succ_self i), rfl, hlt, rfl, mi, c, h1, rfl⟩
    · rintro x H2 ⟨rfl, hx⟩
      have hx1 := hx (cs.map V.int) (.inl (.inl upd_same))
      rw [List.getElem?_map, List.getElem?_eq_getElem hlt] at hx1
      cases hx1
      refine ⟨_, rfl, _, _, rfl, rfl, IntMulOk.of_right (intBits_le_64 (by decide) (by decide)), _, rfl, .inl ⟨_, rfl, _, _, rfl, rfl, (by decide : (2147483629 : Int) ≠ 0), _, _, rfl, rfl, _, _, rfl, rfl, .inl ⟨_, rfl, _, _, rfl, rfl, (by decide : (2147483587 : Int) ≠ 0), ?_⟩⟩⟩
      exact ⟨_, _, rfl, fmod_small _ (by decide) (by decide), rfl⟩
  · have e : i = cs.length := by omega
    subst e
    refine .inl ⟨⟨_, .inl (.inl upd_same), by rw [List.length_map]; exact Nat.le_refl _⟩, ?_⟩
    intro d hd
    have e2 : Ex (upd H p (.lst (cs.map V.int))) (upd (upd H p (.lst (cs.map V.int))) d (.dK [])) := upd_ex hd
    have e3 := e1.trans e2
    refine ⟨_, rfl, _, rfl, _, _, rfl, e3.sqL hS, fun p2 hp2 => ⟨p2, _, rfl, .inl (.inl (.inl upd_same)), fun p3 hp3 => ⟨_, _, rfl, .inl (.inl upd_same), fun l hl2 => ?_⟩⟩⟩
    rw [hcs, ← List.map_reverse] at *
    have e4 := e2.trans ((upd_ex (o := .lst (cs.map V.int)) hp2).trans ((upd_ex (o := .lst (cs.map V.int)) hp3).trans (upd_ex (o := .lst (cs.reverse.map V.int)) hl2)))
    have e5 : Ex (upd (upd H p (.lst (cs.map V.int))) d (.dK [])) _ := (upd_ex (o := .lst (cs.map V.int)) hp2).trans ((upd_ex (o := .lst (cs.map V.int)) hp3).trans (upd_ex (o := .lst (cs.reverse.map V.int)) hl2))
    have hdd := e5 d _ upd_same
    have nd : H d = none := by
      cases e : H d with
      | none => rfl
      | some o => rw [e1 d o e] at hd; cases hd
    have nl : H l = none := by
      cases e : H l with
      | none => rfl
      | some o =>
        have := ((e3.trans (upd_ex (o := .lst (cs.map V.int)) hp2)).trans (upd_ex (o := .lst (cs.map V.int)) hp3)) l o e
        rw [this] at hl2; cases hl2
    have ndl : d ≠ l := fun z => by
      have := ((upd_ex (o := .lst (cs.map V.int)) hp2).trans (upd_ex (o := .lst (cs.map V.int)) hp3)) d _ (upd_same (o := .dK []))
      subst z
      rw [this] at hl2; cases hl2
    refine ⟨_, rfl, hdd, dkL "cells" l mi 0, rfl, (show (3 : Nat) ≤ 15 by decide), hq _ d l ?_ nd nl ?_⟩
    · intro b o hb
      have : b ≠ d := fun z => by rw [z, nd] at hb; cases hb
      rw [upd_ne this]
      exact (e1.trans e4) b o hb
    · refine DeckAt.of (cs := cs.reverse) (mi := mi) (dr := 0) ?_ ?_ (by rw [List.length_reverse]; exact hcl) hm ndl
      · rw [dk_merge (by decide +kernel) (by decide +kernel)]
        exact upd_same
      · rw [upd_ne (Ne.symm ndl)]
        exact upd_same
/-- the end of a draw -/
def drawTail (a1 a2 a3 a4 a5 a6 a7 a8 : Int) : TS := tSeq (tAsg (tOp rModN (tCB rInt1 (tCons (tOp rAddI (tOp rMulO (tVar 2) (tC (.int a1))) (tC (.int a2))) tNil)) (tC (.int a3))) (gName 2))
  (tSeq (tAsg (tOp rModN (tCB rInt1 (tCons (tOp rAddI (tOp rAddI (tOp rMulO (tVar 2) (tVar 2)) (tOp rMulO (tC (.int a4)) (tDGet (tVar 0) (tC (.str "draws"))))) (tC (.int a5))) tNil)) (tC (.int a6))) (gName 2))
  (tSeq (tAsg (tOp rModN (tCB rInt1 (tCons (tOp rMulO (tVar 2) (tC (.int a7))) tNil)) (tC (.int a8))) (gName 2))
  (tRet (tOp rModN (tCB rInt1 (tCons (tOp rDivO (tVar 2) (tC (.int 64))) tNil)) (tVar 1)))))
theorem drawTail_ok {a1 a2 a3 a4 a5 a6 a7 a8 n z mi dr : Int} {nm : Str} {d l : Addr} {c : Option V} {H' : Hp} {Q : VK} (c2 : ¬ nm = "draws") (h1 : Builtin.Int.intBits a1 ≤ 64) (h3 : 0 < a3) (h3' : a3 < 2 ^ 40) (h4 : Builtin.Int.intBits a4 ≤ 64) (h6 : 0 < a6) (h6' : a6 < 2 ^ 40) (h7 : Builtin.Int.intBits a7 ≤ 64) (h8 : 0 < a8)
    (n1 : 1 ≤ n) (n2 : n < 1073741824) (e : H' d = some (.dK (dkL nm l mi dr))) (q : ∀ u : Int, 0 ≤ u → u < n → Q (.int u) H') :
    drawTail a1 a2 a3 a4 a5 a6 a7 a8 { nx := fun _ H' => Q .non H', rt := Q } [some (V.ref d), some (.int n), some (.int z), c] H' := by
  refine ⟨_, rfl, _, _, rfl, rfl, IntMulOk.of_right h1, _, _, rfl, rfl, .inl ⟨_, rfl, _, _, rfl, rfl, (by omega : a3 ≠ 0), ?_⟩⟩
  have b := fmod_small (z * a1 + a2) h3 h3'
  refine ⟨_, rfl, _, rfl, _, _, rfl, rfl, IntMulOk.of_left (intBits_le_64 (by omega) (by omega)), _, rfl, _, _, rfl, dgetK e (dk_d c2), _, _, rfl, rfl, IntMulOk.of_left h4, _, _, rfl, rfl, _, _, rfl, rfl, .inl ⟨_, rfl, _, _, rfl, rfl, (by omega : a6 ≠ 0), ?_⟩⟩
  refine ⟨_, rfl, _, _, rfl, rfl, IntMulOk.of_right h7, .inl ⟨_, rfl, _, _, rfl, rfl, (by omega : a8 ≠ 0), ?_⟩⟩
  refine ⟨_, rfl, _, _, rfl, rfl, ⟨by decide, PyProof.noPylong_small (by decide)⟩, .inl ⟨_, rfl, _, rfl, _, _, rfl, rfl, (by omega : n ≠ 0), q _ (Int.fmod_nonneg_of_pos _ (by omega)) (Int.fmod_lt_of_pos _ (by omega))⟩⟩
theorem ok_draw (F : FnP K "_law_draw" (top 30) [] f fd) (n_int : mg "int" = none) (n_max : mg "max" = none) : FnG P w K mg base CX0 (k + 1) f fd ["deck", "many"] (spG K "cells" false fnDraw) := by
  refine okRaw F sc__law_draw (fun vs H Q E h => ?_) fun cdv A outer s H vs Q E hr hG h => ?_
  · obtain ⟨d, l, F, ds, q, x, _, h, hf, _⟩ := h
    obtain ⟨n, rfl, _⟩ := hf
    rw [h.length]; rfl
  have hu := hu_of hr
  refine ⟨_, pss_cons (ps_dput (td := tVar 0) (ty := tC (.str "draws")) hu (pv 0) pe_str (pe_op op_add (pe_dget (td := tVar 0) (ty := tC (.str "draws")) hu (pv 0) pe_str (fun _ _ => rfl)) pe_int) rfl)
    (pss_cons (ps_set (i := 2) sc__law_draw.nd rfl (Or.inl rfl) (pe_op op_add (pe_dget (td := tVar 0) (ty := tC (.str "mixed")) hu (pv 0) pe_str (fun _ _ => rfl)) (pe_op op_mulO pe_int (pe_dget (td := tVar 0) (ty := tC (.str "draws")) hu (pv 0) pe_str (fun _ _ => rfl)))) rfl (Or.inl rfl))
    (pss_cons (ps_if (pt_cmpR (op_neD hr.units) (pe_dget (td := tVar 0) (ty := tC (.str "cells")) hu (pv 0) pe_str (fun _ _ => rfl)) (pe_lst pa_nil) rfl)
      (pss_cons (ps_set (i := 3) sc__law_draw.nd rfl (Or.inl rfl) (pe_bm0 PySem.F.plainAttrs_list PySem.F.slot_list_pop PySem.F.type_list_pop mt_pop (pe_dget (td := tVar 0) (ty := tC (.str "cells")) hu (pv 0) pe_str (fun _ _ => rfl))) rfl (Or.inl rfl))
        (pss_cons (ps_if (pt_cmpR op_ge (pv 3) (pe_op op_pow pe_int pe_int) (nomark _))
          (pss_cons (ps_expr (pe_bm PySem.F.plainAttrs_list PySem.F.slot_list_append PySem.F.type_list_append mt_append (pe_dget (td := tVar 0) (ty := tC (.str "cells")) hu (pv 0) pe_str (fun _ _ => rfl)) (pa_cons (pe_op op_divO (pv 3) (pe_callB (call_max2 rfl) rfl n_max (by decide +kernel) (pa_cons pe_int (pa_cons (pv 1) pa_nil)))) pa_nil)) rfl)
            (pss_one (ps_ret (pe_op op_modN (pe_callTy call_int1 rfl n_int (by decide +kernel) (pa_cons (pv 3) pa_nil)) (pv 1)))))
          pss_nil)
        (pss_one (ps_set (i := 2) sc__law_draw.nd rfl (Or.inl rfl) (pe_op op_add (pv 2) (pe_op op_modN (pe_callTy call_int1 rfl n_int (by decide +kernel) (pa_cons (pv 3) pa_nil)) pe_int)) rfl (Or.inl rfl)))))
      pss_nil)
    (pss_cons (ps_set (i := 2) sc__law_draw.nd rfl (Or.inl rfl) (pe_op op_modN (pe_callTy call_int1 rfl n_int (by decide +kernel) (pa_cons (pe_op op_add (pe_op op_mulO (pv 2) pe_int) pe_int) pa_nil)) pe_int) rfl (Or.inl rfl))
    (pss_cons (ps_set (i := 2) sc__law_draw.nd rfl (Or.inl rfl) (pe_op op_modN (pe_callTy call_int1 rfl n_int (by decide +kernel) (pa_cons (pe_op op_add (pe_op op_add (pe_op op_mulO (pv 2) (pv 2)) (pe_op op_mulO pe_int (pe_dget (td := tVar 0) (ty := tC (.str "draws")) hu (pv 0) pe_str (fun _ _ => rfl)))) pe_int) pa_nil)) pe_int) rfl (Or.inl rfl))
    (pss_cons (ps_set (i := 2) sc__law_draw.nd rfl (Or.inl rfl) (pe_op op_modN (pe_callTy call_int1 rfl n_int (by decide +kernel) (pa_cons (pe_op op_mulO (pv 2) pe_int) pa_nil)) pe_int) rfl (Or.inl rfl))
    (pss_one (ps_ret (pe_op op_modN (pe_callTy call_int1 rfl n_int (by decide +kernel) (pa_cons (pe_op op_divO (pv 2) pe_int) pa_nil)) (pv 1))))))))), ?_⟩
  obtain ⟨d, l, F, ds, q, x, r, ha, ⟨n, rfl, n1, n2, hd⟩, hq, hx⟩ := h
  obtain ⟨rfl⟩ : vs = [.ref d, .int n] := by
    cases ha with
    | cons a1 a2 => cases a1; cases a2 with
      | cons a3 a4 => cases a3; cases a4; rfl
  obtain ⟨cs, mi, dr, e1, e2, e3, e4, e5⟩ := r.j
  have e1 : H d = some (.dK (dkL "cells" l mi dr)) := e1
  have c1 : ¬ (("cells" : Str) = "mixed") := by decide +kernel
  have c2 : ¬ (("cells" : Str) = "draws") := by decide +kernel
  let H1 := upd H d (.dK (dkL "cells" l mi (dr + 1)))
  have f1 : H1 d = some (.dK (dkL "cells" l mi (dr + 1))) := upd_same
  have f2 : H1 l = some (.lst (cs.map V.int)) := by rw [← e2]; exact upd_ne (Ne.symm e5)
  refine ⟨_, rfl, _, _, rfl, dgetK e1 (dk_d c2), _, _, rfl, rfl, _, rfl, _, H1, rfl, dputK e1 (show (3 : Nat) < sizeLine by decide) (dk_pd c2), ?_⟩
  refine ⟨_, rfl, _, _, rfl, dgetK f1 (dk_m c1), _, rfl, _, _, rfl, dgetK f1 (dk_d c2), _, _, rfl, rfl, IntMulOk.of_left (intBits_le_64 (by decide) (by decide)), _, _, rfl, rfl, ?_⟩
  have tail : ∀ (z : Int) (c : Option V) (H' : Hp), H' d = some (.dK (dkL "cells" l mi (dr + 1))) → (∀ u : Int, 0 ≤ u → u < n → Q (.int u) H') →
      drawTail 39373 167 2147483647 52713 361 2147483587 40692 2147483563 { nx := fun _ H' => Q .non H', rt := Q } [some (V.ref d), some (.int n), some (.int z), c] H' := fun z c H' g1 g2 =>
    drawTail_ok c2 (by decide) (by decide) (by decide) (by decide) (by decide) (by decide) (by decide) (by decide) n1 n2 g1 g2
  refine ⟨_, rfl, _, _, rfl, dgetK f1 dk_l, by decide, fun p hp => ?_⟩
  let H2 := upd H1 p (.lst [])
  have fe : Ex H1 H2 := upd_ex hp
  have f3 := fe _ _ f1
  have f4 := fe _ _ f2
  have keep : ∀ (cs' : List Int), cs'.length ≤ 63 → DL.Fr (some ("cells", d, l)) H F (upd H2 l (.lst (cs'.map V.int))) F := fun cs' h => r.deck (fun b o hb1 hb2 e => by
    rw [upd_ne hb2]
    refine fe _ _ ?_
    rw [show H1 b = H b from upd_ne hb1]
    exact e) (DeckAt.of (by rw [upd_ne e5]; exact f3) upd_same h e4 e5)
  refine ⟨_, _, .lst (.inl (.inl f4)) (pints_dp cs), .lst (.inl (.inl upd_same)) .nil, pints_shaped cs, rfl, ?_⟩
  rcases snoc_cases cs with rfl | ⟨cs, c, rfl⟩
  · refine ⟨_, rfl, Eq.mpr (if_neg (by rw [show PyData.eqv (.list (([] : List Int).map PyData.int)) (.list []) = true from rfl]; decide)) ?_⟩
    exact tail _ none _ f3 fun u u1 u2 => hq _ _ F _ (r.deck (fun b o hb1 hb2 e => fe _ _ (by rw [show H1 b = H b from upd_ne hb1]; exact e)) (DeckAt.of f3 f4 e3 e4 e5)) (.int u) (hd u u1 u2)
  · refine ⟨_, rfl, Eq.mpr (if_pos (by rw [show PyData.eqv (.list ((cs ++ [c]).map PyData.int)) (.list []) = false from by cases cs <;> rfl]; rfl)) ?_⟩
    have e6 : ((cs ++ [c]).map V.int).dropLast = cs.map V.int := by rw [List.map_append]; exact List.dropLast_concat
    have e7 : ((cs ++ [c]).map V.int)[((cs ++ [c]).map V.int).length - 1]? = some (V.int c) := by
      rw [List.map_append, List.length_append, List.map_singleton, List.length_singleton, Nat.add_sub_cancel, List.getElem?_append_right (Nat.le_refl _), Nat.sub_self]; rfl
    have e8 : cs.length ≤ 62 := by rw [List.length_append, List.length_singleton] at e3; omega
    refine ⟨_, rfl, _, _, rfl, dgetK f3 dk_l, .inl ⟨rfl, _, .inl (.inl f4)⟩, _, _, _, rfl, rfl, f4, e7, ?_⟩
    rw [e6]
    have k1 := keep cs (by omega)
    have g1 : (upd H2 l (.lst (cs.map V.int))) d = some (.dK (dkL "cells" l mi (dr + 1))) := by rw [upd_ne e5]; exact f3
    refine ⟨_, rfl, _, _, rfl, rfl, ⟨by decide, by decide, by decide⟩, _, _, rfl, rfl, _, rfl, ?_⟩
    by_cases hc : (10 : Int) ^ (18 : Int).toNat ≤ c
    · refine Eq.mpr (if_pos (decide_eq_true hc)) ?_
      have hm : (if n > 2 then n else 2) ≠ 0 ∧ (if n > 2 then n else 2).natAbs < 1073741824 := by split <;> omega
      refine ⟨_, rfl, _, _, rfl, dgetK g1 dk_l, .inl ⟨rfl, _, .inl (.inl upd_same)⟩, _, rfl, _, rfl, _, _, rfl, _, _, rfl, rfl, ⟨hm.1, PyProof.noPylong_small hm.2⟩, _, _, _, rfl, rfl, upd_same, ?_, ?_⟩
      · rw [List.length_map]; exact Nat.lt_of_le_of_lt e8 (by decide)
      · rw [upd_upd, show cs.map V.int ++ [V.int (c.fdiv (if n > 2 then n else 2))] = (cs ++ [c.fdiv (if n > 2 then n else 2)]).map V.int from by rw [List.map_append]; rfl]
        refine ⟨_, rfl, .inl ⟨_, rfl, _, rfl, _, _, rfl, rfl, (by omega : n ≠ 0), ?_⟩⟩
        exact hq _ _ F _ (keep _ (by rw [List.length_append, List.length_singleton]; omega)) (.int _) (hd _ (Int.fmod_nonneg_of_pos _ (by omega)) (Int.fmod_lt_of_pos _ (by omega)))
    · refine Eq.mpr (if_neg (by rw [decide_eq_false hc]; exact Bool.false_ne_true)) ?_
      refine ⟨_, rfl, _, rfl, .inl ⟨_, rfl, _, _, rfl, rfl, (by decide : (2147483629 : Int) ≠ 0), _, _, rfl, rfl, ?_⟩⟩
      exact tail _ (some (.int c)) _ g1 fun u u1 u2 => hq _ _ F _ k1 (.int u) (hd u u1 u2)
end
noncomputable def g_is_whole : FS :=
  (fRet (hAnd (f1 (sIsi "int") (fVar 0)) (hNot (f1 (sIsi "bool") (fVar 0)))))
noncomputable def fn_is_whole : Fn := lock fun ds q x => ds.length = 1 ∧ g_is_whole (startD 1 ds) (entry false q x)
theorem fn_is_whole_eq (ds : List D) (q : D → Prop) (x : XD) : fn_is_whole ds q x = (ds.length = 1 ∧ g_is_whole (startD 1 ds) (entry false q x)) := lock_at _ ds q x
abbrev Cal_is_whole (P : Program) (w : World) (K : PySem.W.Frag) (mg : Str → Option Value) (base : Heap) : Prop := Cal P w K mg base 1 "is_whole" p_is_whole (spN K false fn_is_whole) [[]] []
noncomputable def g_is_pair_value : FS :=
  (fSeq (fIfS (gOr (gNot (fTest (f1 (sIsi "tuple") (fVar 0)))) (gOr (fTest (f2 (sEq true) (f1 sLen (fVar 0)) (fK (.int 2)))) (gOr (gNot (fTest (fCall fn_is_whole [] (fCons (f2 sIx (fVar 0) (fK (.int 0))) fNil)))) (gNot (fTest (fCall fn_is_whole [] (fCons (f2 sIx (fVar 0) (fK (.int 1))) fNil)))))))
  (fRet (fK (.bl false)))
  fSkip)
  (fRet (hAnd (f2 (sCmp ge') (f2 sIx (fVar 0) (fK (.int 1))) (fK (.int 1))) (f2 (sEq false) (f2 sGcd (f2 sIx (fVar 0) (fK (.int 0))) (f2 sIx (fVar 0) (fK (.int 1)))) (fK (.int 1))))))
noncomputable def fn_is_pair_value : Fn := lock fun ds q x => ds.length = 1 ∧ g_is_pair_value (startD 1 ds) (entry false q x)
theorem fn_is_pair_value_eq (ds : List D) (q : D → Prop) (x : XD) : fn_is_pair_value ds q x = (ds.length = 1 ∧ g_is_pair_value (startD 1 ds) (entry false q x)) := lock_at _ ds q x
abbrev Cal_is_pair_value (P : Program) (w : World) (K : PySem.W.Frag) (mg : Str → Option Value) (base : Heap) : Prop := Cal P w K mg base 2 "is_pair_value" p_is_pair_value (spN K false fn_is_pair_value) [[]] []
noncomputable def g_is_parameter : FS :=
  (fRet (hAnd (fCall fn_is_pair_value [] (fCons (fVar 0) fNil)) (hAnd (f2 (sCmp le') (f1 sAbs (f2 sIx (fVar 0) (fK (.int 0)))) (fK c_MOST_TOP)) (f2 (sCmp le') (f2 sIx (fVar 0) (fK (.int 1))) (fK c_MOST_BOTTOM)))))
noncomputable def fn_is_parameter : Fn := lock fun ds q x => ds.length = 1 ∧ g_is_parameter (startD 1 ds) (entry false q x)
theorem fn_is_parameter_eq (ds : List D) (q : D → Prop) (x : XD) : fn_is_parameter ds q x = (ds.length = 1 ∧ g_is_parameter (startD 1 ds) (entry false q x)) := lock_at _ ds q x
abbrev Cal_is_parameter (P : Program) (w : World) (K : PySem.W.Frag) (mg : Str → Option Value) (base : Heap) : Prop := Cal P w K mg base 3 "is_parameter" p_is_parameter (spN K false fn_is_parameter) [[]] []
abbrev dd_need_parameters_1 : List D := [.non]
noncomputable def g_need_parameters : FS :=
  (fSeq (fFor (fItT (fVar 0)) (fName 2)
  (fIfS (gNot (fTest (fCall fn_is_parameter [] (fCons (fVar 2) fNil))))
  fNever
  fSkip))
  (fIfS (gAnd (fTest (f2 (sIsN true) (fVar 1) (fK .non))) (fTest (f2 (sEq false) (f2 sIx (fVar 1) (fK (.int 0))) (fK (.int 0)))))
  fNever
  fSkip))
noncomputable def fn_need_parameters : Fn := lock fun ds q x => ds.length = 2 ∧ g_need_parameters (startD 3 ds) (entry false q x)
theorem fn_need_parameters_eq (ds : List D) (q : D → Prop) (x : XD) : fn_need_parameters ds q x = (ds.length = 2 ∧ g_need_parameters (startD 3 ds) (entry false q x)) := lock_at _ ds q x
abbrev Cal_need_parameters (P : Program) (w : World) (K : PySem.W.Frag) (mg : Str → Option Value) (base : Heap) : Prop := Cal P w K mg base 4 "need_parameters" p_need_parameters (spN K false fn_need_parameters) [[], dd_need_parameters_1] []
noncomputable def g_need_t : FS :=
  (fSeq (fDrop (fCall fn_need_parameters [] (fCons (f2 sAdd (f1 sTuple (fVar 0)) (fTup (fCons (fVar 1) fNil))) (fCons (fK .non) fNil))))
  (fDrop (fCall fn_need_parameters [] (fCons (fTup fNil) (fCons (fVar 1) fNil)))))
noncomputable def fn_need_t : Fn := lock fun ds q x => ds.length = 2 ∧ g_need_t (startD 2 ds) (entry false q x)
theorem fn_need_t_eq (ds : List D) (q : D → Prop) (x : XD) : fn_need_t ds q x = (ds.length = 2 ∧ g_need_t (startD 2 ds) (entry false q x)) := lock_at _ ds q x
abbrev Cal_need_t (P : Program) (w : World) (K : PySem.W.Frag) (mg : Str → Option Value) (base : Heap) : Prop := Cal P w K mg base 5 "need_t" p_need_t (spN K false fn_need_t) [[]] []
noncomputable def g_total : FS :=
  (fSeq (fAsg (fTup (fCons (fK (.int 0)) (fCons (fK (.int 1)) fNil))) (fGtup 2 (fGcons (fName 1) (fGcons (fName 2) fGnil))))
  (fSeq (fFor (fItL (fVar 0)) (fName 3)
  (fSeq (fAsg (fTup (fCons (fK (.int 1)) (fCons (fK (.int 1)) fNil))) (fGtup 2 (fGcons (fName 4) (fGcons (fName 5) fGnil))))
  (fSeq (fFor (fItT (fVar 3)) (fGtup 2 (fGcons (fName 6) (fGcons (fName 7) fGnil)))
  (fPar2 4 5 (fCons (f2 sMul (fVar 4) (fVar 6)) (fCons (f2 sMul (fVar 5) (fVar 7)) fNil))))
  (fPar2 1 2 (fCons (f2 sAdd (f2 sMul (fVar 1) (fVar 5)) (f2 sMul (fVar 4) (fVar 2))) (fCons (f2 sMul (fVar 2) (fVar 5)) fNil))))))
  (fRet (fTup (fCons (fVar 1) (fCons (fVar 2) fNil))))))
noncomputable def fn_total : Fn := lock fun ds q x => ds.length = 1 ∧ g_total (startD 8 ds) (entry false q x)
theorem fn_total_eq (ds : List D) (q : D → Prop) (x : XD) : fn_total ds q x = (ds.length = 1 ∧ g_total (startD 8 ds) (entry false q x)) := lock_at _ ds q x
abbrev Cal_total (P : Program) (w : World) (K : PySem.W.Frag) (mg : Str → Option Value) (base : Heap) : Prop := Cal P w K mg base 1 "total" p_total (spN K false fn_total) [[]] []
noncomputable def g_whole : FS :=
  (fRet (fTup (fCons (fVar 0) (fCons (fK (.int 1)) fNil))))
noncomputable def fn_whole : Fn := lock fun ds q x => ds.length = 1 ∧ g_whole (startD 1 ds) (entry false q x)
theorem fn_whole_eq (ds : List D) (q : D → Prop) (x : XD) : fn_whole ds q x = (ds.length = 1 ∧ g_whole (startD 1 ds) (entry false q x)) := lock_at _ ds q x
abbrev Cal_whole (P : Program) (w : World) (K : PySem.W.Frag) (mg : Str → Option Value) (base : Heap) : Prop := Cal P w K mg base 1 "whole" p_whole (spN K false fn_whole) [[]] []
noncomputable def g_is_zero : FS :=
  (fRet (f2 (sEq false) (f2 sIx (fVar 0) (fK (.int 0))) (fK (.int 0))))
noncomputable def fn_is_zero : Fn := lock fun ds q x => ds.length = 1 ∧ g_is_zero (startD 1 ds) (entry false q x)
theorem fn_is_zero_eq (ds : List D) (q : D → Prop) (x : XD) : fn_is_zero ds q x = (ds.length = 1 ∧ g_is_zero (startD 1 ds) (entry false q x)) := lock_at _ ds q x
abbrev Cal_is_zero (P : Program) (w : World) (K : PySem.W.Frag) (mg : Str → Option Value) (base : Heap) : Prop := Cal P w K mg base 1 "is_zero" p_is_zero (spN K false fn_is_zero) [[]] []
noncomputable def g_is_integer_pair : FS :=
  (fRet (f2 (sEq false) (f2 sMod (f2 sIx (fVar 0) (fK (.int 0))) (f2 sIx (fVar 0) (fK (.int 1)))) (fK (.int 0))))
noncomputable def fn_is_integer_pair : Fn := lock fun ds q x => ds.length = 1 ∧ g_is_integer_pair (startD 1 ds) (entry false q x)
theorem fn_is_integer_pair_eq (ds : List D) (q : D → Prop) (x : XD) : fn_is_integer_pair ds q x = (ds.length = 1 ∧ g_is_integer_pair (startD 1 ds) (entry false q x)) := lock_at _ ds q x
abbrev Cal_is_integer_pair (P : Program) (w : World) (K : PySem.W.Frag) (mg : Str → Option Value) (base : Heap) : Prop := Cal P w K mg base 1 "is_integer_pair" p_is_integer_pair (spN K false fn_is_integer_pair) [[]] []
noncomputable def g_steady_verdict : FS :=
  (fSeq (fDrop (fCall fn_need_t [] (fCons (fTup (fCons (fVar 0) fNil)) (fCons (fVar 1) fNil))))
  (fRet (fK c_FORMULA)))
noncomputable def fn_steady_verdict : Fn := lock fun ds q x => ds.length = 2 ∧ g_steady_verdict (startD 2 ds) (entry false q x)
theorem fn_steady_verdict_eq (ds : List D) (q : D → Prop) (x : XD) : fn_steady_verdict ds q x = (ds.length = 2 ∧ g_steady_verdict (startD 2 ds) (entry false q x)) := lock_at _ ds q x
abbrev Cal_steady_verdict (P : Program) (w : World) (K : PySem.W.Frag) (mg : Str → Option Value) (base : Heap) : Prop := Cal P w K mg base 6 "steady_verdict" p_steady_verdict (spN K false fn_steady_verdict) [[]] [(0, ["t", "x"], [1, 0])]
noncomputable def g_hermite_verdict : FS :=
  (fSeq (fDrop (fCall fn_need_parameters dd_need_parameters_1 (fCons (fTup (fCons (fVar 0) (fCons (fVar 1) fNil))) fNil)))
  (fRet (fIf (fTest (fCall fn_is_zero [] (fCons (fVar 0) fNil))) (fK c_LAID) (fK c_NOTHING))))
noncomputable def fn_hermite_verdict : Fn := lock fun ds q x => ds.length = 2 ∧ g_hermite_verdict (startD 2 ds) (entry false q x)
theorem fn_hermite_verdict_eq (ds : List D) (q : D → Prop) (x : XD) : fn_hermite_verdict ds q x = (ds.length = 2 ∧ g_hermite_verdict (startD 2 ds) (entry false q x)) := lock_at _ ds q x
abbrev Cal_hermite_verdict (P : Program) (w : World) (K : PySem.W.Frag) (mg : Str → Option Value) (base : Heap) : Prop := Cal P w K mg base 5 "hermite_verdict" p_hermite_verdict (spN K false fn_hermite_verdict) [[]] [(0, ["t", "x"], [1, 0])]
noncomputable def g_bessel_verdict : FS :=
  (fSeq (fDrop (fCall fn_need_t [] (fCons (fTup (fCons (fVar 0) (fCons (fVar 1) fNil))) (fCons (fVar 2) fNil))))
  (fRet (fIf (fTest (fCall fn_is_zero [] (fCons (fVar 0) fNil))) (fK c_FORMULA) (fK c_NOTHING))))
noncomputable def fn_bessel_verdict : Fn := lock fun ds q x => ds.length = 3 ∧ g_bessel_verdict (startD 3 ds) (entry false q x)
theorem fn_bessel_verdict_eq (ds : List D) (q : D → Prop) (x : XD) : fn_bessel_verdict ds q x = (ds.length = 3 ∧ g_bessel_verdict (startD 3 ds) (entry false q x)) := lock_at _ ds q x
abbrev Cal_bessel_verdict (P : Program) (w : World) (K : PySem.W.Frag) (mg : Str → Option Value) (base : Heap) : Prop := Cal P w K mg base 6 "bessel_verdict" p_bessel_verdict (spN K false fn_bessel_verdict) [[]] [(0, ["t", "l", "x"], [2, 1, 0])]
noncomputable def g_gegenbauer_verdict : FS :=
  (fSeq (fDrop (fCall fn_need_parameters dd_need_parameters_1 (fCons (fTup (fCons (fVar 0) (fCons (fVar 1) fNil))) fNil)))
  (fSeq (fIfS (gOr (fTest (fCall fn_is_integer_pair [] (fCons (fVar 1) fNil))) (fTest (f2 (sIn false) (fVar 0) (fTup (fCons (fTup (fCons (fK (.int 1)) (fCons (fK (.int 1)) fNil))) (fCons (fTup (fCons (f1 sNeg (fK (.int 1))) (fCons (fK (.int 1)) fNil))) fNil))))))
  (fRet (fK c_FORMULA))
  fSkip)
  (fRet (fIf (fTest (fCall fn_is_zero [] (fCons (fVar 0) fNil))) (fK c_LAID) (fK c_NOTHING)))))
noncomputable def fn_gegenbauer_verdict : Fn := lock fun ds q x => ds.length = 2 ∧ g_gegenbauer_verdict (startD 2 ds) (entry false q x)
theorem fn_gegenbauer_verdict_eq (ds : List D) (q : D → Prop) (x : XD) : fn_gegenbauer_verdict ds q x = (ds.length = 2 ∧ g_gegenbauer_verdict (startD 2 ds) (entry false q x)) := lock_at _ ds q x
abbrev Cal_gegenbauer_verdict (P : Program) (w : World) (K : PySem.W.Frag) (mg : Str → Option Value) (base : Heap) : Prop := Cal P w K mg base 5 "gegenbauer_verdict" p_gegenbauer_verdict (spN K false fn_gegenbauer_verdict) [[]] [(0, ["l", "x"], [1, 0])]
noncomputable def g_laguerre_verdict : FS :=
  (fSeq (fDrop (fCall fn_need_parameters dd_need_parameters_1 (fCons (fTup (fCons (fVar 0) (fCons (fVar 1) fNil))) fNil)))
  (fRet (fIf (fTest (fCall fn_is_zero [] (fCons (fVar 0) fNil))) (fK c_FORMULA) (fK c_NOTHING))))
noncomputable def fn_laguerre_verdict : Fn := lock fun ds q x => ds.length = 2 ∧ g_laguerre_verdict (startD 2 ds) (entry false q x)
theorem fn_laguerre_verdict_eq (ds : List D) (q : D → Prop) (x : XD) : fn_laguerre_verdict ds q x = (ds.length = 2 ∧ g_laguerre_verdict (startD 2 ds) (entry false q x)) := lock_at _ ds q x
abbrev Cal_laguerre_verdict (P : Program) (w : World) (K : PySem.W.Frag) (mg : Str → Option Value) (base : Heap) : Prop := Cal P w K mg base 5 "laguerre_verdict" p_laguerre_verdict (spN K false fn_laguerre_verdict) [[]] [(0, ["l", "x"], [1, 0])]
noncomputable def g_charlier_verdict : FS :=
  (fSeq (fDrop (fCall fn_need_t [] (fCons (fTup (fCons (fVar 0) fNil)) (fCons (fVar 1) fNil))))
  (fRet (fIf (fTest (fCall fn_is_integer_pair [] (fCons (fVar 0) fNil))) (fK c_FORMULA) (fK c_NOTHING))))
noncomputable def fn_charlier_verdict : Fn := lock fun ds q x => ds.length = 2 ∧ g_charlier_verdict (startD 2 ds) (entry false q x)
theorem fn_charlier_verdict_eq (ds : List D) (q : D → Prop) (x : XD) : fn_charlier_verdict ds q x = (ds.length = 2 ∧ g_charlier_verdict (startD 2 ds) (entry false q x)) := lock_at _ ds q x
abbrev Cal_charlier_verdict (P : Program) (w : World) (K : PySem.W.Frag) (mg : Str → Option Value) (base : Heap) : Prop := Cal P w K mg base 6 "charlier_verdict" p_charlier_verdict (spN K false fn_charlier_verdict) [[]] [(0, ["t", "x"], [1, 0])]
noncomputable def g_meixner_verdict : FS :=
  (fSeq (fDrop (fCall fn_need_t [] (fCons (fTup (fCons (fVar 0) (fCons (fVar 1) fNil))) (fCons (fVar 2) fNil))))
  (fSeq (fIfS (gOr (fTest (f2 (sEq false) (fVar 2) (fTup (fCons (fK (.int 1)) (fCons (fK (.int 1)) fNil))))) (gOr (fTest (fCall fn_is_integer_pair [] (fCons (fVar 0) fNil))) (fTest (fCall fn_is_integer_pair [] (fCons (fCall fn_total [] (fCons (fLst (fCons (fTup (fCons (fVar 0) fNil)) (fCons (fTup (fCons (fVar 1) fNil)) fNil))) fNil)) fNil)))))
  (fRet (fK c_FORMULA))
  fSkip)
  (fRet (fIf (gAnd (fTest (f2 (sEq false) (fVar 2) (fTup (fCons (f1 sNeg (fK (.int 1))) (fCons (fK (.int 1)) fNil))))) (fTest (fCall fn_is_integer_pair [] (fCons (fCall fn_total [] (fCons (fLst (fCons (fTup (fCons (fCall fn_whole [] (fCons (fK (.int 2)) fNil)) (fCons (fVar 0) fNil))) (fCons (fTup (fCons (fVar 1) fNil)) fNil))) fNil)) fNil)))) (fK c_LAID) (fK c_NOTHING)))))
noncomputable def fn_meixner_verdict : Fn := lock fun ds q x => ds.length = 3 ∧ g_meixner_verdict (startD 3 ds) (entry false q x)
theorem fn_meixner_verdict_eq (ds : List D) (q : D → Prop) (x : XD) : fn_meixner_verdict ds q x = (ds.length = 3 ∧ g_meixner_verdict (startD 3 ds) (entry false q x)) := lock_at _ ds q x
abbrev Cal_meixner_verdict (P : Program) (w : World) (K : PySem.W.Frag) (mg : Str → Option Value) (base : Heap) : Prop := Cal P w K mg base 6 "meixner_verdict" p_meixner_verdict (spN K false fn_meixner_verdict) [[]] [(0, ["t", "l", "x"], [2, 1, 0])]
abbrev Cal__law_deck (P : Program) (w : World) (K : PySem.W.Frag) (mg : Str → Option Value) (base : Heap) : Prop := Cal P w K mg base 1 "_law_deck" p__law_deck (spDeck K "cells") [[]] []
abbrev fn__law_draw : Fn := fnDraw
abbrev Cal__law_draw (P : Program) (w : World) (K : PySem.W.Frag) (mg : Str → Option Value) (base : Heap) : Prop := Cal P w K mg base 1 "_law_draw" p__law_draw (spG K "cells" false fnDraw) [[]] []
noncomputable def g__law_pick (d : Addr) : FS :=
  (fRet (f2 sIx (fVar 1) (fCallG fn__law_draw d (fCons (fVar 0) (fCons (f1 sLen (fVar 1)) fNil)))))
noncomputable def fn__law_pick : Fn := lock fun ds q x => ds.length = 1 ∧ ∀ d, g__law_pick d (startD 2 (.ref d :: ds)) (entry false q x)
theorem fn__law_pick_eq (ds : List D) (q : D → Prop) (x : XD) : fn__law_pick ds q x = (ds.length = 1 ∧ ∀ d, g__law_pick d (startD 2 (.ref d :: ds)) (entry false q x)) := lock_at _ ds q x
abbrev Cal__law_pick (P : Program) (w : World) (K : PySem.W.Frag) (mg : Str → Option Value) (base : Heap) : Prop := Cal P w K mg base 2 "_law_pick" p__law_pick (spG K "cells" false fn__law_pick) [[]] []
noncomputable def g__law_common : FS :=
  (fSeq (fPar2 0 1 (fCons (f1 sAbs (fVar 0)) (fCons (f1 sAbs (fVar 1)) fNil)))
  (fSeq (fFor (fRg1 (fK (.int 2000))) (fName 2)
  (fSeq (fIfS (fTest (f2 (sEq false) (fVar 1) (fK (.int 0))))
  (fRet (fVar 0))
  fSkip)
  (fPar2 0 1 (fCons (fVar 1) (fCons (f2 sMod (f1 sInt (fVar 0)) (fVar 1)) fNil)))))
  (fRet (fVar 0))))
noncomputable def fn__law_common : Fn := lock fun ds q x => ds.length = 2 ∧ g__law_common (startD 3 ds) (entry false q x)
theorem fn__law_common_eq (ds : List D) (q : D → Prop) (x : XD) : fn__law_common ds q x = (ds.length = 2 ∧ g__law_common (startD 3 ds) (entry false q x)) := lock_at _ ds q x
abbrev Cal__law_common (P : Program) (w : World) (K : PySem.W.Frag) (mg : Str → Option Value) (base : Heap) : Prop := Cal P w K mg base 1 "_law_common" p__law_common (spN K false fn__law_common) [[]] []
noncomputable def g__law_pair : FS :=
  (fSeq (fIfS (fTest (f2 (sCmp lt') (fVar 1) (fK (.int 0))))
  (fPar2 0 1 (fCons (f1 sNeg (fVar 0)) (fCons (f1 sNeg (fVar 1)) fNil)))
  fSkip)
  (fSeq (fAsg (fCall fn__law_common [] (fCons (fVar 0) (fCons (fVar 1) fNil))) (fName 2))
  (fRet (fTup (fCons (f2 sDiv (fVar 0) (fVar 2)) (fCons (f2 sDiv (fVar 1) (fVar 2)) fNil))))))
noncomputable def fn__law_pair : Fn := lock fun ds q x => ds.length = 2 ∧ g__law_pair (startD 3 ds) (entry false q x)
theorem fn__law_pair_eq (ds : List D) (q : D → Prop) (x : XD) : fn__law_pair ds q x = (ds.length = 2 ∧ g__law_pair (startD 3 ds) (entry false q x)) := lock_at _ ds q x
abbrev Cal__law_pair (P : Program) (w : World) (K : PySem.W.Frag) (mg : Str → Option Value) (base : Heap) : Prop := Cal P w K mg base 2 "_law_pair" p__law_pair (spN K false fn__law_pair) [[]] []
noncomputable def g__law_is_whole : FS :=
  (fSeq (fAsg (fTup (fCons (fK (.int 0)) (fCons (fK (.int 1)) fNil))) (fGtup 2 (fGcons (fName 1) (fGcons (fName 2) fGnil))))
  (fSeq (fFor (fItL (fVar 0)) (fGtup 2 (fGcons (fName 3) (fGcons (fName 4) fGnil)))
  (fPar2 1 2 (fCons (f2 sAdd (f2 sMul (fVar 1) (fVar 4)) (f2 sMul (fVar 3) (fVar 2))) (fCons (f2 sMul (fVar 2) (fVar 4)) fNil))))
  (fRet (f2 (sEq false) (f2 sMod (f1 sInt (fVar 1)) (fVar 2)) (fK (.int 0))))))
noncomputable def fn__law_is_whole : Fn := lock fun ds q x => ds.length = 1 ∧ g__law_is_whole (startD 5 ds) (entry false q x)
theorem fn__law_is_whole_eq (ds : List D) (q : D → Prop) (x : XD) : fn__law_is_whole ds q x = (ds.length = 1 ∧ g__law_is_whole (startD 5 ds) (entry false q x)) := lock_at _ ds q x
abbrev Cal__law_is_whole (P : Program) (w : World) (K : PySem.W.Frag) (mg : Str → Option Value) (base : Heap) : Prop := Cal P w K mg base 1 "_law_is_whole" p__law_is_whole (spN K false fn__law_is_whole) [[]] []
noncomputable def g__law_named_verdict : FS :=
  (fSeq (fPar3 2 3 4 (fCons (f2 sIx (fVar 1) (fK (.int 0))) (fCons (f2 sIx (fVar 1) (fK (.int 1))) (fCons (f2 sIx (fVar 1) (f1 sNeg (fK (.int 1)))) fNil))))
  (fSeq (fIfS (fTest (f2 (sEq false) (fVar 0) (fK (.str "steady"))))
  (fRet (fK (.str "formula")))
  fSkip)
  (fSeq (fIfS (fTest (f2 (sEq false) (fVar 0) (fK (.str "hermite"))))
  (fRet (fIf (fTest (f2 (sEq false) (f2 sIx (fVar 2) (fK (.int 0))) (fK (.int 0)))) (fK (.str "laid")) (fK (.str "nothing"))))
  fSkip)
  (fSeq (fIfS (fTest (f2 (sIn false) (fVar 0) (fTup (fCons (fK (.str "bessel")) (fCons (fK (.str "laguerre")) fNil)))))
  (fRet (fIf (fTest (f2 (sEq false) (f2 sIx (fVar 2) (fK (.int 0))) (fK (.int 0)))) (fK (.str "formula")) (fK (.str "nothing"))))
  fSkip)
  (fSeq (fIfS (fTest (f2 (sEq false) (fVar 0) (fK (.str "gegenbauer"))))
  (fSeq (fIfS (gOr (fTest (f2 (sEq false) (f2 sIx (fVar 3) (fK (.int 1))) (fK (.int 1)))) (fTest (f2 (sIn false) (fVar 2) (fTup (fCons (fTup (fCons (fK (.int 1)) (fCons (fK (.int 1)) fNil))) (fCons (fTup (fCons (f1 sNeg (fK (.int 1))) (fCons (fK (.int 1)) fNil))) fNil))))))
  (fRet (fK (.str "formula")))
  fSkip)
  (fRet (fIf (fTest (f2 (sEq false) (f2 sIx (fVar 2) (fK (.int 0))) (fK (.int 0)))) (fK (.str "laid")) (fK (.str "nothing")))))
  fSkip)
  (fSeq (fIfS (fTest (f2 (sEq false) (fVar 0) (fK (.str "charlier"))))
  (fRet (fIf (fTest (f2 (sEq false) (f2 sIx (fVar 2) (fK (.int 1))) (fK (.int 1)))) (fK (.str "formula")) (fK (.str "nothing"))))
  fSkip)
  (fSeq (fIfS (gOr (fTest (f2 (sEq false) (fVar 4) (fTup (fCons (fK (.int 1)) (fCons (fK (.int 1)) fNil))))) (gOr (fTest (f2 (sEq false) (f2 sIx (fVar 2) (fK (.int 1))) (fK (.int 1)))) (fTest (fCall fn__law_is_whole [] (fCons (fLst (fCons (fVar 2) (fCons (fVar 3) fNil))) fNil)))))
  (fRet (fK (.str "formula")))
  fSkip)
  (fRet (fIf (gAnd (fTest (f2 (sEq false) (fVar 4) (fTup (fCons (f1 sNeg (fK (.int 1))) (fCons (fK (.int 1)) fNil))))) (fTest (fCall fn__law_is_whole [] (fCons (fLst (fCons (fVar 2) (fCons (fVar 2) (fCons (fVar 3) fNil)))) fNil)))) (fK (.str "laid")) (fK (.str "nothing")))))))))))
noncomputable def fn__law_named_verdict : Fn := lock fun ds q x => ds.length = 2 ∧ g__law_named_verdict (startD 5 ds) (entry false q x)
theorem fn__law_named_verdict_eq (ds : List D) (q : D → Prop) (x : XD) : fn__law_named_verdict ds q x = (ds.length = 2 ∧ g__law_named_verdict (startD 5 ds) (entry false q x)) := lock_at _ ds q x
abbrev Cal__law_named_verdict (P : Program) (w : World) (K : PySem.W.Frag) (mg : Str → Option Value) (base : Heap) : Prop := Cal P w K mg base 2 "_law_named_verdict" p__law_named_verdict (spN K false fn__law_named_verdict) [[]] []
noncomputable def g__law_parameter (d : Addr) : FS :=
  (fSeq (fAsg (fCallG fn__law_draw d (fCons (fVar 0) (fCons (fK (.int 5)) fNil))) (fName 2))
  (fSeq (fIfS (fTest (f2 (sCmp lt') (fVar 2) (fK (.int 3))))
  (fAsg (fCallG fn__law_pick d (fCons (fVar 0) (fCons (fLst (fCons (fTup (fCons (fK (.int 1)) (fCons (fK (.int 1)) fNil))) (fCons (fTup (fCons (f1 sNeg (fK (.int 1))) (fCons (fK (.int 1)) fNil))) (fCons (fTup (fCons (fK (.int 2)) (fCons (fK (.int 1)) fNil))) (fCons (fTup (fCons (fK (.int 1)) (fCons (fK (.int 2)) fNil))) (fCons (fTup (fCons (f1 sNeg (fK (.int 1))) (fCons (fK (.int 2)) fNil))) (fCons (fTup (fCons (fK (.int 0)) (fCons (fK (.int 1)) fNil))) (fCons (fTup (fCons (fK (.int 3)) (fCons (fK (.int 2)) fNil))) (fCons (fTup (fCons (f1 sNeg (fK (.int 3))) (fCons (fK (.int 1)) fNil))) (fCons (fTup (fCons (fK (.int 1)) (fCons (fK (.int 3)) fNil))) (fCons (fTup (fCons (f1 sNeg (fK (.int 7))) (fCons (fK (.int 2)) fNil))) (fCons (fTup (fCons (fK (.int 5)) (fCons (fK (.int 4)) fNil))) (fCons (fTup (fCons (fK (.int 0)) (fCons (fK (.int 1)) fNil))) fNil))))))))))))) fNil))) (fGtup 2 (fGcons (fName 3) (fGcons (fName 4) fGnil))))
  (fPar2 3 4 (fCons (f2 sSub (fCallG fn__law_draw d (fCons (fVar 0) (fCons (fK (.int 81)) fNil))) (fK (.int 40))) (fCons (f2 sAdd (fK (.int 1)) (fCallG fn__law_draw d (fCons (fVar 0) (fCons (fIf (fTest (f2 (sEq false) (fVar 2) (fK (.int 3)))) (fK (.int 12)) (fK (.int 2))) fNil)))) fNil))))
  (fRet (fIf (gOr (fTest (f2 (sEq true) (fVar 3) (fK (.int 0)))) (fTest (fVar 1))) (fCall fn__law_pair [] (fCons (fVar 3) (fCons (fVar 4) fNil))) (fTup (fCons (f1 sNeg (fK (.int 1))) (fCons (fK (.int 1)) fNil)))))))
noncomputable def fn__law_parameter : Fn := lock fun ds q x => ds.length = 1 ∧ ∀ d, g__law_parameter d (startD 5 (.ref d :: ds)) (entry false q x)
theorem fn__law_parameter_eq (ds : List D) (q : D → Prop) (x : XD) : fn__law_parameter ds q x = (ds.length = 1 ∧ ∀ d, g__law_parameter d (startD 5 (.ref d :: ds)) (entry false q x)) := lock_at _ ds q x
abbrev Cal__law_parameter (P : Program) (w : World) (K : PySem.W.Frag) (mg : Str → Option Value) (base : Heap) : Prop := Cal P w K mg base 3 "_law_parameter" p__law_parameter (spG K "cells" false fn__law_parameter) [[]] []
noncomputable def g__law_near (d : Addr) : FS :=
  (fSeq (fAsg (fCallG fn__law_pick d (fCons (fVar 0) (fCons (fLst (fCons (fTup (fCons (f1 sNeg (f2 sIx (fVar 1) (fK (.int 0)))) (fCons (f2 sIx (fVar 1) (fK (.int 1))) fNil))) (fCons (fTup (fCons (f2 sSub (f2 sIx (fVar 1) (fK (.int 1))) (f2 sIx (fVar 1) (fK (.int 0)))) (fCons (f2 sIx (fVar 1) (fK (.int 1))) fNil))) (fCons (fTup (fCons (f2 sMul (f1 sNeg (fK (.int 2))) (f2 sIx (fVar 1) (fK (.int 0)))) (fCons (f2 sIx (fVar 1) (fK (.int 1))) fNil))) (fCons (fTup (fCons (f2 sSub (f2 sMul (fK (.int 3)) (f2 sIx (fVar 1) (fK (.int 1)))) (f2 sMul (fK (.int 2)) (f2 sIx (fVar 1) (fK (.int 0))))) (fCons (f2 sIx (fVar 1) (fK (.int 1))) fNil))) (fCons (fTup (fCons (f2 sSub (f1 sNeg (f2 sIx (fVar 1) (fK (.int 0)))) (f2 sMul (fK (.int 2)) (f2 sIx (fVar 1) (fK (.int 1))))) (fCons (f2 sIx (fVar 1) (fK (.int 1))) fNil))) fNil)))))) fNil))) (fGtup 2 (fGcons (fName 2) (fGcons (fName 3) fGnil))))
  (fSeq (fAsg (fCall fn__law_pair [] (fCons (fVar 2) (fCons (fVar 3) fNil))) (fName 4))
  (fRet (fIf (fTest (f2 (sCmp le') (f1 sAbs (f2 sIx (fVar 4) (fK (.int 0)))) (fK (.int 40)))) (fVar 4) (fTup (fCons (fK (.int 1)) (fCons (fK (.int 2)) fNil)))))))
noncomputable def fn__law_near : Fn := lock fun ds q x => ds.length = 1 ∧ ∀ d, g__law_near d (startD 5 (.ref d :: ds)) (entry false q x)
theorem fn__law_near_eq (ds : List D) (q : D → Prop) (x : XD) : fn__law_near ds q x = (ds.length = 1 ∧ ∀ d, g__law_near d (startD 5 (.ref d :: ds)) (entry false q x)) := lock_at _ ds q x
abbrev Cal__law_near (P : Program) (w : World) (K : PySem.W.Frag) (mg : Str → Option Value) (base : Heap) : Prop := Cal P w K mg base 3 "_law_near" p__law_near (spG K "cells" false fn__law_near) [[]] []
noncomputable def g_law (d : Addr) : FS :=
  (fSeq (fFor (fRg1 (fK (.int 6))) (fName 2)
  (fSeq (fPar2 3 4 (fCons (fCallG fn__law_parameter d (fCons (fVar 1) (fCons (fK (.bl true)) fNil))) (fCons (fCallG fn__law_parameter d (fCons (fVar 1) (fCons (fK (.bl true)) fNil))) fNil)))
  (fSeq (fAsg (fIf (fTest (f2 (sEq false) (fCallG fn__law_draw d (fCons (fVar 1) (fCons (fK (.int 2)) fNil))) (fK (.int 0)))) (fCallG fn__law_near d (fCons (fVar 1) (fCons (fVar 3) fNil))) (fCallG fn__law_parameter d (fCons (fVar 1) (fCons (fK (.bl true)) fNil)))) (fName 5))
  (fSeq (fAsg (fCallG fn__law_pick d (fCons (fVar 1) (fCons (fLst (fCons (fTup (fCons (fK (.int 1)) (fCons (fK (.int 1)) fNil))) (fCons (fTup (fCons (f1 sNeg (fK (.int 1))) (fCons (fK (.int 1)) fNil))) (fCons (fTup (fCons (f1 sNeg (fK (.int 1))) (fCons (fK (.int 1)) fNil))) (fCons (fCallG fn__law_parameter d (fCons (fVar 1) (fCons (fK (.bl false)) fNil))) (fCons (fCallG fn__law_parameter d (fCons (fVar 1) (fCons (fK (.bl false)) fNil))) fNil)))))) fNil))) (fName 6))
  (fSeq (fAsg (fLst (fCons (fCall fn_steady_verdict [] (fCons (fVar 3) (fCons (fVar 6) fNil))) (fCons (fCall fn_hermite_verdict [] (fCons (fVar 3) (fCons (fVar 4) fNil))) (fCons (fCall fn_bessel_verdict [] (fCons (fVar 3) (fCons (fVar 5) (fCons (fVar 6) fNil)))) (fCons (fCall fn_gegenbauer_verdict [] (fCons (fVar 3) (fCons (fVar 5) fNil))) (fCons (fCall fn_laguerre_verdict [] (fCons (fVar 3) (fCons (fVar 5) fNil))) fNil)))))) (fName 7))
  (fSeq (fAsg (f2 sAdd (fVar 7) (fLst (fCons (fCall fn_charlier_verdict [] (fCons (fVar 3) (fCons (fVar 6) fNil))) (fCons (fCall fn_meixner_verdict [] (fCons (fVar 3) (fCons (fVar 5) (fCons (fVar 6) fNil)))) fNil)))) (fName 7))
  (fSeq (fAsg (fLst (fCons (fCallK fn_steady_verdict 0 2 [1, 0] fNil (fCons (fVar 6) (fCons (fVar 3) fNil))) (fCons (fCallK fn_hermite_verdict 0 2 [1, 0] fNil (fCons (fVar 4) (fCons (fVar 3) fNil))) (fCons (fCallK fn_bessel_verdict 0 3 [2, 1, 0] fNil (fCons (fVar 6) (fCons (fVar 5) (fCons (fVar 3) fNil)))) (fCons (fCallK fn_gegenbauer_verdict 0 2 [1, 0] fNil (fCons (fVar 5) (fCons (fVar 3) fNil))) fNil))))) (fName 8))
  (fSeq (fAsg (f2 sAdd (fVar 8) (fLst (fCons (fCallK fn_laguerre_verdict 0 2 [1, 0] fNil (fCons (fVar 5) (fCons (fVar 3) fNil))) (fCons (fCallK fn_charlier_verdict 0 2 [1, 0] fNil (fCons (fVar 6) (fCons (fVar 3) fNil))) (fCons (fCallK fn_meixner_verdict 0 3 [2, 1, 0] fNil (fCons (fVar 6) (fCons (fVar 5) (fCons (fVar 3) fNil)))) fNil))))) (fName 8))
  (fSeq (fAsg (fLst (fCons (fCall fn__law_named_verdict [] (fCons (fK (.str "steady")) (fCons (fTup (fCons (fVar 3) (fCons (fVar 6) fNil))) fNil))) (fCons (fCall fn__law_named_verdict [] (fCons (fK (.str "hermite")) (fCons (fTup (fCons (fVar 3) (fCons (fVar 4) fNil))) fNil))) (fCons (fCall fn__law_named_verdict [] (fCons (fK (.str "bessel")) (fCons (fTup (fCons (fVar 3) (fCons (fVar 5) (fCons (fVar 6) fNil)))) fNil))) fNil)))) (fName 9))
  (fSeq (fAsg (f2 sAdd (fVar 9) (fLst (fCons (fCall fn__law_named_verdict [] (fCons (fK (.str "gegenbauer")) (fCons (fTup (fCons (fVar 3) (fCons (fVar 5) fNil))) fNil))) (fCons (fCall fn__law_named_verdict [] (fCons (fK (.str "laguerre")) (fCons (fTup (fCons (fVar 3) (fCons (fVar 5) fNil))) fNil))) fNil)))) (fName 9))
  (fSeq (fAsg (f2 sAdd (fVar 9) (fLst (fCons (fCall fn__law_named_verdict [] (fCons (fK (.str "charlier")) (fCons (fTup (fCons (fVar 3) (fCons (fVar 6) fNil))) fNil))) (fCons (fCall fn__law_named_verdict [] (fCons (fK (.str "meixner")) (fCons (fTup (fCons (fVar 3) (fCons (fVar 5) (fCons (fVar 6) fNil)))) fNil))) fNil)))) (fName 9))
  (fSeq (fIfS (fTest (f2 (sEq true) (f1 sReprT (fTup (fCons (fVar 7) (fCons (fVar 8) fNil)))) (f1 sReprT (fTup (fCons (fVar 9) (fCons (fVar 9) fNil))))))
  (fRet (fK (.bl false)))
  fSkip)
  (fSeq (fAsg (fTup (fCons (f1 sNeg (f2 sIx (fVar 3) (fK (.int 0)))) (fCons (f2 sIx (fVar 3) (fK (.int 1))) fNil))) (fName 10))
  (fSeq (fIfS (fTest (f2 (sEq true) (fLst (fCons (fCall fn_hermite_verdict [] (fCons (fVar 10) (fCons (fVar 4) fNil))) (fCons (fCall fn_bessel_verdict [] (fCons (fVar 10) (fCons (fVar 5) (fCons (fVar 6) fNil)))) (fCons (fCall fn_gegenbauer_verdict [] (fCons (fVar 10) (fCons (fVar 5) fNil))) fNil)))) (fSl (fVar 7) (fPart (fK (.int 1))) (fPart (fK (.int 4))))))
  (fRet (fK (.bl false)))
  fSkip)
  (fSeq (fPar2 11 12 (fCons (fCall fn__law_pair [] (fCons (f2 sSub (f2 sMul (f1 sNeg (f2 sIx (fVar 3) (fK (.int 0)))) (f2 sIx (fVar 5) (fK (.int 1)))) (f2 sMul (f2 sIx (fVar 5) (fK (.int 0))) (f2 sIx (fVar 3) (fK (.int 1))))) (fCons (f2 sMul (f2 sIx (fVar 3) (fK (.int 1))) (f2 sIx (fVar 5) (fK (.int 1)))) fNil))) (fCons (fCall fn__law_pair [] (fCons (f2 sIx (fVar 6) (fK (.int 1))) (fCons (f2 sIx (fVar 6) (fK (.int 0))) fNil))) fNil)))
  (fIfS (gAnd (fTest (f2 (sCmp le') (f1 sAbs (f2 sIx (fVar 11) (fK (.int 0)))) (fK (.int 40)))) (gAnd (fTest (f2 (sCmp le') (f2 sIx (fVar 11) (fK (.int 1))) (fK (.int 12)))) (gAnd (fTest (f2 (sCmp le') (f2 sIx (fVar 12) (fK (.int 1))) (fK (.int 12)))) (fTest (f2 (sEq true) (fCall fn_meixner_verdict [] (fCons (fVar 11) (fCons (fVar 5) (fCons (fVar 12) fNil)))) (f2 sIx (fVar 7) (fK (.int 6))))))))
  (fRet (fK (.bl false)))
  fSkip))))))))))))))))
  (fRet (fK (.bl true))))
abbrev Cal_law (P : Program) (w : World) (K : PySem.W.Frag) (mg : Str → Option Value) (base : Heap) : Prop := Cal P w K mg base 7 "law" p_law (spLaw K) [[]] []
section
variable {P : Program} {w : World} {K : PySem.W.Frag} {mg : Str → Option Value} {base : Heap} {f : Addr} {fd : FuncData}
theorem ok_is_whole (F : FnP K "is_whole" (top 5) [] f fd) (T : Txt K mg)  : FnG P w K mg base CX0 1 f fd p_is_whole (spN K false fn_is_whole) :=
  okN F sc_is_whole (fun ds q x h => ((fn_is_whole_eq ds q x).mp h).1) fun cdv A outer s H E hr hG => ⟨[], g_is_whole, (dss_one (ds_ret (de_and (de_isi (T := "int") (by rfl) T.n_isinstance (by rfl) T.n_int (by decide +kernel) (db_of (pv 0)) isi_int) (de_one (de_not (de_isi (T := "bool") (by rfl) T.n_isinstance (by rfl) T.n_bool (by decide +kernel) (db_of (pv 0)) isi_bool)))))), fun ds q x h => ((fn_is_whole_eq ds q x).mp h).2⟩
theorem ok_is_pair_value (F : FnP K "is_pair_value" (top 7) [] f fd) (T : Txt K mg) (C_is_whole : Cal_is_whole P w K mg base) : FnG P w K mg base CX0 2 f fd p_is_pair_value (spN K false fn_is_pair_value) :=
  okN F sc_is_pair_value (fun ds q x h => ((fn_is_pair_value_eq ds q x).mp h).1) fun cdv A outer s H E hr hG => ⟨[], g_is_pair_value, (dss_cons (ds_if (dw_pt (dw_or (dt_not (dt_val (de_isi (T := "tuple") (by rfl) T.n_isinstance (by rfl) T.n_tuple (by decide +kernel) (db_of (pv 0)) isi_tuple))) (dw_or (dt_cmp (cd_ne hr.units) (DE.toB (de_len (by rfl) T.n_len (db_of (pv 0)))) (de_int).toB) (dw_or (dt_not (dt_val (cal_N C_is_whole hr hG (by rfl) 0 (da_cons (de_ix (db_of (pv 0)) (de_int).toB) da_nil)))) (dw_or1 (dt_not (dt_val (cal_N C_is_whole hr hG (by rfl) 0 (da_cons (de_ix (db_of (pv 0)) (de_int).toB) da_nil)))))))))
  (dss_one (ds_ret de_bl))
  dss_nil)
  (dss_one (ds_ret (de_and (de_cmp cd_ge (DE.toB (de_ix (db_of (pv 0)) (de_int).toB)) (de_int).toB) (de_one (de_cmp (cd_eq hr.units) (DE.toB (de_gcd (by rfl) T.m_gcd (DE.toB (de_ix (db_of (pv 0)) (de_int).toB)) (DE.toB (de_ix (db_of (pv 0)) (de_int).toB)))) (de_int).toB)))))), fun ds q x h => ((fn_is_pair_value_eq ds q x).mp h).2⟩
theorem ok_is_parameter (F : FnP K "is_parameter" (top 14) [] f fd) (T : Txt K mg) (C_is_pair_value : Cal_is_pair_value P w K mg base) : FnG P w K mg base CX0 3 f fd p_is_parameter (spN K false fn_is_parameter) :=
  okN F sc_is_parameter (fun ds q x h => ((fn_is_parameter_eq ds q x).mp h).1) fun cdv A outer s H E hr hG => ⟨[], g_is_parameter, (dss_one (ds_ret (de_and (cal_N C_is_pair_value hr hG (by rfl) 0 (da_cons (de_of (pv 0)) da_nil)) (de_and (de_cmp cd_le (DE.toB (de_abs (by rfl) T.n_abs (DE.toB (de_ix (db_of (pv 0)) (de_int).toB)))) (DE.toB (de_con (by rfl) T.c_MOST_TOP))) (de_one (de_cmp cd_le (DE.toB (de_ix (db_of (pv 0)) (de_int).toB)) (DE.toB (de_con (by rfl) T.c_MOST_BOTTOM)))))))), fun ds q x h => ((fn_is_parameter_eq ds q x).mp h).2⟩
theorem ok_need_parameters (F : FnP K "need_parameters" (top 15) [.non] f fd) (T : Txt K mg) (C_is_parameter : Cal_is_parameter P w K mg base) : FnG P w K mg base CX0 4 f fd p_need_parameters (spN K false fn_need_parameters) :=
  okN F sc_need_parameters (fun ds q x h => ((fn_need_parameters_eq ds q x).mp h).1) fun cdv A outer s H E hr hG => ⟨[], g_need_parameters, (dss_cons (ds_for PassesOwn.never rfl (di_tup (de_of (pv 0))) (dg_name (i := 2) sc_need_parameters.nd rfl (by first | exact .inl rfl | exact .inr rfl))
  (dss_one (ds_if (dt_not (dt_val (cal_N C_is_parameter hr hG (by rfl) 0 (da_cons (de_of (pv 2)) da_nil))))
  (dss_one ds_never)
  dss_nil)))
  (dss_one (ds_if (dw_pt (dw_and (dt_cmp cd_isNotN (db_of (pv 1)) (de_non).toB) (dw_and1 (dt_cmp (cd_eq hr.units) (DE.toB (de_ix (db_of (pv 1)) (de_int).toB)) (de_int).toB))))
  (dss_one ds_never)
  dss_nil))), fun ds q x h => ((fn_need_parameters_eq ds q x).mp h).2⟩
theorem ok_need_t (F : FnP K "need_t" (top 16) [] f fd) (T : Txt K mg) (C_need_parameters : Cal_need_parameters P w K mg base) : FnG P w K mg base CX0 5 f fd p_need_t (spN K false fn_need_t) :=
  okN F sc_need_t (fun ds q x h => ((fn_need_t_eq ds q x).mp h).1) fun cdv A outer s H E hr hG => ⟨[], g_need_t, (dss_cons (ds_expr (cal_N C_need_parameters hr hG (by rfl) 0 (da_cons (de_add (DE.toB (de_tuple (by rfl) T.n_tuple (db_of (pv 0)))) (DE.toB (de_tup (da_cons (de_of (pv 1)) da_nil)))) (da_cons de_non da_nil))))
  (dss_one (ds_expr (cal_N C_need_parameters hr hG (by rfl) 0 (da_cons (de_tup da_nil) (da_cons (de_of (pv 1)) da_nil)))))), fun ds q x h => ((fn_need_t_eq ds q x).mp h).2⟩
theorem ok_total (F : FnP K "total" (top 17) [] f fd) (T : Txt K mg)  : FnG P w K mg base CX0 1 f fd p_total (spN K false fn_total) :=
  okN F sc_total (fun ds q x h => ((fn_total_eq ds q x).mp h).1) fun cdv A outer s H E hr hG => ⟨[], g_total, (dss_cons (ds_asg (de_tup (da_cons de_int (da_cons de_int da_nil))) (dg_tup rfl (dgs_cons (dg_name (i := 1) sc_total.nd rfl (by first | exact .inl rfl | exact .inr rfl)) (dgs_cons (dg_name (i := 2) sc_total.nd rfl (by first | exact .inl rfl | exact .inr rfl)) dgs_nil))))
  (dss_cons (ds_for PassesOwn.never rfl (di_list (de_of (pv 0))) (dg_name (i := 3) sc_total.nd rfl (by first | exact .inl rfl | exact .inr rfl))
  (dss_cons (ds_asg (de_tup (da_cons de_int (da_cons de_int da_nil))) (dg_tup rfl (dgs_cons (dg_name (i := 4) sc_total.nd rfl (by first | exact .inl rfl | exact .inr rfl)) (dgs_cons (dg_name (i := 5) sc_total.nd rfl (by first | exact .inl rfl | exact .inr rfl)) dgs_nil))))
  (dss_cons (ds_for PassesOwn.never rfl (di_tup (de_of (pv 3))) (dg_tup rfl (dgs_cons (dg_name (i := 6) sc_total.nd rfl (by first | exact .inl rfl | exact .inr rfl)) (dgs_cons (dg_name (i := 7) sc_total.nd rfl (by first | exact .inl rfl | exact .inr rfl)) dgs_nil)))
  (dss_one (ds_par2 (i := 4) (j := 5) rfl sc_total.nd rfl rfl rfl rfl (da_cons (de_mul (db_of (pv 4)) (db_of (pv 6))) (da_cons (de_mul (db_of (pv 5)) (db_of (pv 7))) da_nil)))))
  (dss_one (ds_par2 (i := 1) (j := 2) rfl sc_total.nd rfl rfl rfl rfl (da_cons (de_add (DE.toB (de_mul (db_of (pv 1)) (db_of (pv 5)))) (DE.toB (de_mul (db_of (pv 4)) (db_of (pv 2))))) (da_cons (de_mul (db_of (pv 2)) (db_of (pv 5))) da_nil)))))))
  (dss_one (ds_ret (de_tup (da_cons (de_of (pv 1)) (da_cons (de_of (pv 2)) da_nil))))))), fun ds q x h => ((fn_total_eq ds q x).mp h).2⟩
theorem ok_whole (F : FnP K "whole" (top 18) [] f fd) (T : Txt K mg)  : FnG P w K mg base CX0 1 f fd p_whole (spN K false fn_whole) :=
  okN F sc_whole (fun ds q x h => ((fn_whole_eq ds q x).mp h).1) fun cdv A outer s H E hr hG => ⟨[], g_whole, (dss_one (ds_ret (de_tup (da_cons (de_of (pv 0)) (da_cons de_int da_nil))))), fun ds q x h => ((fn_whole_eq ds q x).mp h).2⟩
theorem ok_is_zero (F : FnP K "is_zero" (top 19) [] f fd) (T : Txt K mg)  : FnG P w K mg base CX0 1 f fd p_is_zero (spN K false fn_is_zero) :=
  okN F sc_is_zero (fun ds q x h => ((fn_is_zero_eq ds q x).mp h).1) fun cdv A outer s H E hr hG => ⟨[], g_is_zero, (dss_one (ds_ret (de_cmp (cd_eq hr.units) (DE.toB (de_ix (db_of (pv 0)) (de_int).toB)) (de_int).toB))), fun ds q x h => ((fn_is_zero_eq ds q x).mp h).2⟩
theorem ok_is_integer_pair (F : FnP K "is_integer_pair" (top 20) [] f fd) (T : Txt K mg)  : FnG P w K mg base CX0 1 f fd p_is_integer_pair (spN K false fn_is_integer_pair) :=
  okN F sc_is_integer_pair (fun ds q x h => ((fn_is_integer_pair_eq ds q x).mp h).1) fun cdv A outer s H E hr hG => ⟨[], g_is_integer_pair, (dss_one (ds_ret (de_cmp (cd_eq hr.units) (DE.toB (de_mod (DE.toB (de_ix (db_of (pv 0)) (de_int).toB)) (DE.toB (de_ix (db_of (pv 0)) (de_int).toB)))) (de_int).toB))), fun ds q x h => ((fn_is_integer_pair_eq ds q x).mp h).2⟩
theorem ok_steady_verdict (F : FnP K "steady_verdict" (top 21) [] f fd) (T : Txt K mg) (C_need_t : Cal_need_t P w K mg base) : FnG P w K mg base CX0 6 f fd p_steady_verdict (spN K false fn_steady_verdict) :=
  okN F sc_steady_verdict (fun ds q x h => ((fn_steady_verdict_eq ds q x).mp h).1) fun cdv A outer s H E hr hG => ⟨[], g_steady_verdict, (dss_cons (ds_expr (cal_N C_need_t hr hG (by rfl) 0 (da_cons (de_tup (da_cons (de_of (pv 0)) da_nil)) (da_cons (de_of (pv 1)) da_nil))))
  (dss_one (ds_ret (de_con (by rfl) T.c_FORMULA)))), fun ds q x h => ((fn_steady_verdict_eq ds q x).mp h).2⟩
theorem ok_hermite_verdict (F : FnP K "hermite_verdict" (top 22) [] f fd) (T : Txt K mg) (C_is_zero : Cal_is_zero P w K mg base) (C_need_parameters : Cal_need_parameters P w K mg base) : FnG P w K mg base CX0 5 f fd p_hermite_verdict (spN K false fn_hermite_verdict) :=
  okN F sc_hermite_verdict (fun ds q x h => ((fn_hermite_verdict_eq ds q x).mp h).1) fun cdv A outer s H E hr hG => ⟨[], g_hermite_verdict, (dss_cons (ds_expr (cal_N C_need_parameters hr hG (by rfl) 1 (da_cons (de_tup (da_cons (de_of (pv 0)) (da_cons (de_of (pv 1)) da_nil))) da_nil)))
  (dss_one (ds_ret (de_if (dt_val (cal_N C_is_zero hr hG (by rfl) 0 (da_cons (de_of (pv 0)) da_nil))) (de_con (by rfl) T.c_LAID) (de_con (by rfl) T.c_NOTHING))))), fun ds q x h => ((fn_hermite_verdict_eq ds q x).mp h).2⟩
theorem ok_bessel_verdict (F : FnP K "bessel_verdict" (top 23) [] f fd) (T : Txt K mg) (C_is_zero : Cal_is_zero P w K mg base) (C_need_t : Cal_need_t P w K mg base) : FnG P w K mg base CX0 6 f fd p_bessel_verdict (spN K false fn_bessel_verdict) :=
  okN F sc_bessel_verdict (fun ds q x h => ((fn_bessel_verdict_eq ds q x).mp h).1) fun cdv A outer s H E hr hG => ⟨[], g_bessel_verdict, (dss_cons (ds_expr (cal_N C_need_t hr hG (by rfl) 0 (da_cons (de_tup (da_cons (de_of (pv 0)) (da_cons (de_of (pv 1)) da_nil))) (da_cons (de_of (pv 2)) da_nil))))
  (dss_one (ds_ret (de_if (dt_val (cal_N C_is_zero hr hG (by rfl) 0 (da_cons (de_of (pv 0)) da_nil))) (de_con (by rfl) T.c_FORMULA) (de_con (by rfl) T.c_NOTHING))))), fun ds q x h => ((fn_bessel_verdict_eq ds q x).mp h).2⟩
theorem ok_gegenbauer_verdict (F : FnP K "gegenbauer_verdict" (top 24) [] f fd) (T : Txt K mg) (C_is_integer_pair : Cal_is_integer_pair P w K mg base) (C_is_zero : Cal_is_zero P w K mg base) (C_need_parameters : Cal_need_parameters P w K mg base) : FnG P w K mg base CX0 5 f fd p_gegenbauer_verdict (spN K false fn_gegenbauer_verdict) :=
  okN F sc_gegenbauer_verdict (fun ds q x h => ((fn_gegenbauer_verdict_eq ds q x).mp h).1) fun cdv A outer s H E hr hG => ⟨[], g_gegenbauer_verdict, (dss_cons (ds_expr (cal_N C_need_parameters hr hG (by rfl) 1 (da_cons (de_tup (da_cons (de_of (pv 0)) (da_cons (de_of (pv 1)) da_nil))) da_nil)))
  (dss_cons (ds_if (dw_pt (dw_or (dt_val (cal_N C_is_integer_pair hr hG (by rfl) 0 (da_cons (de_of (pv 1)) da_nil))) (dw_or1 (dt_cmp (cd_in (hu65 hr)) (db_of (pv 0)) (DE.toB (de_tup (da_cons (de_tup (da_cons de_int (da_cons de_int da_nil))) (da_cons (de_tup (da_cons (de_neg (de_int).toB) (da_cons de_int da_nil))) da_nil))))))))
  (dss_one (ds_ret (de_con (by rfl) T.c_FORMULA)))
  dss_nil)
  (dss_one (ds_ret (de_if (dt_val (cal_N C_is_zero hr hG (by rfl) 0 (da_cons (de_of (pv 0)) da_nil))) (de_con (by rfl) T.c_LAID) (de_con (by rfl) T.c_NOTHING)))))), fun ds q x h => ((fn_gegenbauer_verdict_eq ds q x).mp h).2⟩
theorem ok_laguerre_verdict (F : FnP K "laguerre_verdict" (top 25) [] f fd) (T : Txt K mg) (C_is_zero : Cal_is_zero P w K mg base) (C_need_parameters : Cal_need_parameters P w K mg base) : FnG P w K mg base CX0 5 f fd p_laguerre_verdict (spN K false fn_laguerre_verdict) :=
  okN F sc_laguerre_verdict (fun ds q x h => ((fn_laguerre_verdict_eq ds q x).mp h).1) fun cdv A outer s H E hr hG => ⟨[], g_laguerre_verdict, (dss_cons (ds_expr (cal_N C_need_parameters hr hG (by rfl) 1 (da_cons (de_tup (da_cons (de_of (pv 0)) (da_cons (de_of (pv 1)) da_nil))) da_nil)))
  (dss_one (ds_ret (de_if (dt_val (cal_N C_is_zero hr hG (by rfl) 0 (da_cons (de_of (pv 0)) da_nil))) (de_con (by rfl) T.c_FORMULA) (de_con (by rfl) T.c_NOTHING))))), fun ds q x h => ((fn_laguerre_verdict_eq ds q x).mp h).2⟩
theorem ok_charlier_verdict (F : FnP K "charlier_verdict" (top 26) [] f fd) (T : Txt K mg) (C_is_integer_pair : Cal_is_integer_pair P w K mg base) (C_need_t : Cal_need_t P w K mg base) : FnG P w K mg base CX0 6 f fd p_charlier_verdict (spN K false fn_charlier_verdict) :=
  okN F sc_charlier_verdict (fun ds q x h => ((fn_charlier_verdict_eq ds q x).mp h).1) fun cdv A outer s H E hr hG => ⟨[], g_charlier_verdict, (dss_cons (ds_expr (cal_N C_need_t hr hG (by rfl) 0 (da_cons (de_tup (da_cons (de_of (pv 0)) da_nil)) (da_cons (de_of (pv 1)) da_nil))))
  (dss_one (ds_ret (de_if (dt_val (cal_N C_is_integer_pair hr hG (by rfl) 0 (da_cons (de_of (pv 0)) da_nil))) (de_con (by rfl) T.c_FORMULA) (de_con (by rfl) T.c_NOTHING))))), fun ds q x h => ((fn_charlier_verdict_eq ds q x).mp h).2⟩
theorem ok_meixner_verdict (F : FnP K "meixner_verdict" (top 27) [] f fd) (T : Txt K mg) (C_is_integer_pair : Cal_is_integer_pair P w K mg base) (C_need_t : Cal_need_t P w K mg base) (C_total : Cal_total P w K mg base) (C_whole : Cal_whole P w K mg base) : FnG P w K mg base CX0 6 f fd p_meixner_verdict (spN K false fn_meixner_verdict) :=
  okN F sc_meixner_verdict (fun ds q x h => ((fn_meixner_verdict_eq ds q x).mp h).1) fun cdv A outer s H E hr hG => ⟨[], g_meixner_verdict, (dss_cons (ds_expr (cal_N C_need_t hr hG (by rfl) 0 (da_cons (de_tup (da_cons (de_of (pv 0)) (da_cons (de_of (pv 1)) da_nil))) (da_cons (de_of (pv 2)) da_nil))))
  (dss_cons (ds_if (dw_pt (dw_or (dt_cmp (cd_eq hr.units) (db_of (pv 2)) (DE.toB (de_tup (da_cons de_int (da_cons de_int da_nil))))) (dw_or (dt_val (cal_N C_is_integer_pair hr hG (by rfl) 0 (da_cons (de_of (pv 0)) da_nil))) (dw_or1 (dt_val (cal_N C_is_integer_pair hr hG (by rfl) 0 (da_cons (cal_N C_total hr hG (by rfl) 0 (da_cons (DF.toE (df_lst (da_cons (de_tup (da_cons (de_of (pv 0)) da_nil)) (da_cons (de_tup (da_cons (de_of (pv 1)) da_nil)) da_nil)))) da_nil)) da_nil)))))))
  (dss_one (ds_ret (de_con (by rfl) T.c_FORMULA)))
  dss_nil)
  (dss_one (ds_ret (de_if (dw_pt (dw_and (dt_cmp (cd_eq hr.units) (db_of (pv 2)) (DE.toB (de_tup (da_cons (de_neg (de_int).toB) (da_cons de_int da_nil))))) (dw_and1 (dt_val (cal_N C_is_integer_pair hr hG (by rfl) 0 (da_cons (cal_N C_total hr hG (by rfl) 0 (da_cons (DF.toE (df_lst (da_cons (de_tup (da_cons (cal_N C_whole hr hG (by rfl) 0 (da_cons de_int da_nil)) (da_cons (de_of (pv 0)) da_nil))) (da_cons (de_tup (da_cons (de_of (pv 1)) da_nil)) da_nil)))) da_nil)) da_nil)))))) (de_con (by rfl) T.c_LAID) (de_con (by rfl) T.c_NOTHING)))))), fun ds q x h => ((fn_meixner_verdict_eq ds q x).mp h).2⟩
theorem ok__law_pick (F : FnP K "_law_pick" (top 31) [] f fd) (T : Txt K mg) (C__law_draw : Cal__law_draw P w K mg base) : FnG P w K mg base CX0 2 f fd p__law_pick (spG K "cells" false fn__law_pick) :=
  okG F sc__law_pick (fun ds q x h => by rw [((fn__law_pick_eq ds q x).mp h).1]; rfl) fun cdv A outer s H E d l hr hG => ⟨[], g__law_pick d, (dss_one (ds_ret (de_ix (db_of (pv 1)) (DE.toB (cal_G C__law_draw hr hG (by rfl) (da_cons (de_of (pv 0)) (da_cons (de_len (by rfl) T.n_len (db_of (pv 1))) da_nil))))))), fun ds q x h => ((fn__law_pick_eq ds q x).mp h).2 d⟩
theorem ok__law_common (F : FnP K "_law_common" (top 32) [] f fd) (T : Txt K mg)  : FnG P w K mg base CX0 1 f fd p__law_common (spN K false fn__law_common) :=
  okN F sc__law_common (fun ds q x h => ((fn__law_common_eq ds q x).mp h).1) fun cdv A outer s H E hr hG => ⟨[], g__law_common, (dss_cons (ds_par2 (i := 0) (j := 1) rfl sc__law_common.nd rfl rfl rfl rfl (da_cons (de_abs (by rfl) T.n_abs (db_of (pv 0))) (da_cons (de_abs (by rfl) T.n_abs (db_of (pv 1))) da_nil)))
  (dss_cons (ds_for PassesOwn.never rfl (di_range1 (by rfl) T.n_range de_int) (dg_name (i := 2) sc__law_common.nd rfl (by first | exact .inl rfl | exact .inr rfl))
  (dss_cons (ds_if (dt_cmp (cd_eq hr.units) (db_of (pv 1)) (de_int).toB)
  (dss_one (ds_ret (de_of (pv 0))))
  dss_nil)
  (dss_one (ds_par2 (i := 0) (j := 1) rfl sc__law_common.nd rfl rfl rfl rfl (da_cons (de_of (pv 1)) (da_cons (de_mod (DE.toB (de_toInt (by rfl) T.n_int (db_of (pv 0)))) (db_of (pv 1))) da_nil))))))
  (dss_one (ds_ret (de_of (pv 0)))))), fun ds q x h => ((fn__law_common_eq ds q x).mp h).2⟩
theorem ok__law_pair (F : FnP K "_law_pair" (top 33) [] f fd) (T : Txt K mg) (C__law_common : Cal__law_common P w K mg base) : FnG P w K mg base CX0 2 f fd p__law_pair (spN K false fn__law_pair) :=
  okN F sc__law_pair (fun ds q x h => ((fn__law_pair_eq ds q x).mp h).1) fun cdv A outer s H E hr hG => ⟨[], g__law_pair, (dss_cons (ds_if (dt_cmp cd_lt (db_of (pv 1)) (de_int).toB)
  (dss_one (ds_par2 (i := 0) (j := 1) rfl sc__law_pair.nd rfl rfl rfl rfl (da_cons (de_neg (db_of (pv 0))) (da_cons (de_neg (db_of (pv 1))) da_nil))))
  dss_nil)
  (dss_cons (ds_set (i := 2) sc__law_pair.nd rfl (by first | exact .inl rfl | exact .inr rfl) (cal_N C__law_common hr hG (by rfl) 0 (da_cons (de_of (pv 0)) (da_cons (de_of (pv 1)) da_nil))))
  (dss_one (ds_ret (de_tup (da_cons (de_div (db_of (pv 0)) (db_of (pv 2))) (da_cons (de_div (db_of (pv 1)) (db_of (pv 2))) da_nil))))))), fun ds q x h => ((fn__law_pair_eq ds q x).mp h).2⟩
theorem ok__law_is_whole (F : FnP K "_law_is_whole" (top 34) [] f fd) (T : Txt K mg)  : FnG P w K mg base CX0 1 f fd p__law_is_whole (spN K false fn__law_is_whole) :=
  okN F sc__law_is_whole (fun ds q x h => ((fn__law_is_whole_eq ds q x).mp h).1) fun cdv A outer s H E hr hG => ⟨[], g__law_is_whole, (dss_cons (ds_asg (de_tup (da_cons de_int (da_cons de_int da_nil))) (dg_tup rfl (dgs_cons (dg_name (i := 1) sc__law_is_whole.nd rfl (by first | exact .inl rfl | exact .inr rfl)) (dgs_cons (dg_name (i := 2) sc__law_is_whole.nd rfl (by first | exact .inl rfl | exact .inr rfl)) dgs_nil))))
  (dss_cons (ds_for PassesOwn.never rfl (di_list (de_of (pv 0))) (dg_tup rfl (dgs_cons (dg_name (i := 3) sc__law_is_whole.nd rfl (by first | exact .inl rfl | exact .inr rfl)) (dgs_cons (dg_name (i := 4) sc__law_is_whole.nd rfl (by first | exact .inl rfl | exact .inr rfl)) dgs_nil)))
  (dss_one (ds_par2 (i := 1) (j := 2) rfl sc__law_is_whole.nd rfl rfl rfl rfl (da_cons (de_add (DE.toB (de_mul (db_of (pv 1)) (db_of (pv 4)))) (DE.toB (de_mul (db_of (pv 3)) (db_of (pv 2))))) (da_cons (de_mul (db_of (pv 2)) (db_of (pv 4))) da_nil)))))
  (dss_one (ds_ret (de_cmp (cd_eq hr.units) (DE.toB (de_mod (DE.toB (de_toInt (by rfl) T.n_int (db_of (pv 1)))) (db_of (pv 2)))) (de_int).toB))))), fun ds q x h => ((fn__law_is_whole_eq ds q x).mp h).2⟩
theorem ok__law_named_verdict (F : FnP K "_law_named_verdict" (top 35) [] f fd) (T : Txt K mg) (C__law_is_whole : Cal__law_is_whole P w K mg base) : FnG P w K mg base CX0 2 f fd p__law_named_verdict (spN K false fn__law_named_verdict) :=
  okN F sc__law_named_verdict (fun ds q x h => ((fn__law_named_verdict_eq ds q x).mp h).1) fun cdv A outer s H E hr hG => ⟨[], g__law_named_verdict, (dss_cons (ds_par3 (i := 2) (j := 3) (l := 4) rfl sc__law_named_verdict.nd rfl rfl rfl rfl rfl rfl (da_cons (de_ix (db_of (pv 1)) (de_int).toB) (da_cons (de_ix (db_of (pv 1)) (de_int).toB) (da_cons (de_ix (db_of (pv 1)) (DE.toB (de_neg (de_int).toB))) da_nil))))
  (dss_cons (ds_if (dt_cmp (cd_eq hr.units) (db_of (pv 0)) (de_str).toB)
  (dss_one (ds_ret de_str))
  dss_nil)
  (dss_cons (ds_if (dt_cmp (cd_eq hr.units) (db_of (pv 0)) (de_str).toB)
  (dss_one (ds_ret (de_if (dt_cmp (cd_eq hr.units) (DE.toB (de_ix (db_of (pv 2)) (de_int).toB)) (de_int).toB) de_str de_str)))
  dss_nil)
  (dss_cons (ds_if (dt_cmp (cd_in (hu65 hr)) (db_of (pv 0)) (DE.toB (de_tup (da_cons de_str (da_cons de_str da_nil)))))
  (dss_one (ds_ret (de_if (dt_cmp (cd_eq hr.units) (DE.toB (de_ix (db_of (pv 2)) (de_int).toB)) (de_int).toB) de_str de_str)))
  dss_nil)
  (dss_cons (ds_if (dt_cmp (cd_eq hr.units) (db_of (pv 0)) (de_str).toB)
  (dss_cons (ds_if (dw_pt (dw_or (dt_cmp (cd_eq hr.units) (DE.toB (de_ix (db_of (pv 3)) (de_int).toB)) (de_int).toB) (dw_or1 (dt_cmp (cd_in (hu65 hr)) (db_of (pv 2)) (DE.toB (de_tup (da_cons (de_tup (da_cons de_int (da_cons de_int da_nil))) (da_cons (de_tup (da_cons (de_neg (de_int).toB) (da_cons de_int da_nil))) da_nil))))))))
  (dss_one (ds_ret de_str))
  dss_nil)
  (dss_one (ds_ret (de_if (dt_cmp (cd_eq hr.units) (DE.toB (de_ix (db_of (pv 2)) (de_int).toB)) (de_int).toB) de_str de_str))))
  dss_nil)
  (dss_cons (ds_if (dt_cmp (cd_eq hr.units) (db_of (pv 0)) (de_str).toB)
  (dss_one (ds_ret (de_if (dt_cmp (cd_eq hr.units) (DE.toB (de_ix (db_of (pv 2)) (de_int).toB)) (de_int).toB) de_str de_str)))
  dss_nil)
  (dss_cons (ds_if (dw_pt (dw_or (dt_cmp (cd_eq hr.units) (db_of (pv 4)) (DE.toB (de_tup (da_cons de_int (da_cons de_int da_nil))))) (dw_or (dt_cmp (cd_eq hr.units) (DE.toB (de_ix (db_of (pv 2)) (de_int).toB)) (de_int).toB) (dw_or1 (dt_val (cal_N C__law_is_whole hr hG (by rfl) 0 (da_cons (DF.toE (df_lst (da_cons (de_of (pv 2)) (da_cons (de_of (pv 3)) da_nil)))) da_nil)))))))
  (dss_one (ds_ret de_str))
  dss_nil)
  (dss_one (ds_ret (de_if (dw_pt (dw_and (dt_cmp (cd_eq hr.units) (db_of (pv 4)) (DE.toB (de_tup (da_cons (de_neg (de_int).toB) (da_cons de_int da_nil))))) (dw_and1 (dt_val (cal_N C__law_is_whole hr hG (by rfl) 0 (da_cons (DF.toE (df_lst (da_cons (de_of (pv 2)) (da_cons (de_of (pv 2)) (da_cons (de_of (pv 3)) da_nil))))) da_nil)))))) de_str de_str)))))))))), fun ds q x h => ((fn__law_named_verdict_eq ds q x).mp h).2⟩
theorem ok__law_parameter (F : FnP K "_law_parameter" (top 36) [] f fd) (T : Txt K mg) (C__law_draw : Cal__law_draw P w K mg base) (C__law_pair : Cal__law_pair P w K mg base) (C__law_pick : Cal__law_pick P w K mg base) : FnG P w K mg base CX0 3 f fd p__law_parameter (spG K "cells" false fn__law_parameter) :=
  okG F sc__law_parameter (fun ds q x h => by rw [((fn__law_parameter_eq ds q x).mp h).1]; rfl) fun cdv A outer s H E d l hr hG => ⟨[], g__law_parameter d, (dss_cons (ds_set (i := 2) sc__law_parameter.nd rfl (by first | exact .inl rfl | exact .inr rfl) (cal_G C__law_draw hr hG (by rfl) (da_cons (de_of (pv 0)) (da_cons de_int da_nil))))
  (dss_cons (ds_if (dt_cmp cd_lt (db_of (pv 2)) (de_int).toB)
  (dss_one (ds_asg (cal_G C__law_pick hr hG (by rfl) (da_cons (de_of (pv 0)) (da_cons (DF.toE (df_lst (da_cons (de_tup (da_cons de_int (da_cons de_int da_nil))) (da_cons (de_tup (da_cons (de_neg (de_int).toB) (da_cons de_int da_nil))) (da_cons (de_tup (da_cons de_int (da_cons de_int da_nil))) (da_cons (de_tup (da_cons de_int (da_cons de_int da_nil))) (da_cons (de_tup (da_cons (de_neg (de_int).toB) (da_cons de_int da_nil))) (da_cons (de_tup (da_cons de_int (da_cons de_int da_nil))) (da_cons (de_tup (da_cons de_int (da_cons de_int da_nil))) (da_cons (de_tup (da_cons (de_neg (de_int).toB) (da_cons de_int da_nil))) (da_cons (de_tup (da_cons de_int (da_cons de_int da_nil))) (da_cons (de_tup (da_cons (de_neg (de_int).toB) (da_cons de_int da_nil))) (da_cons (de_tup (da_cons de_int (da_cons de_int da_nil))) (da_cons (de_tup (da_cons de_int (da_cons de_int da_nil))) da_nil)))))))))))))) da_nil))) (dg_tup rfl (dgs_cons (dg_name (i := 3) sc__law_parameter.nd rfl (by first | exact .inl rfl | exact .inr rfl)) (dgs_cons (dg_name (i := 4) sc__law_parameter.nd rfl (by first | exact .inl rfl | exact .inr rfl)) dgs_nil)))))
  (dss_one (ds_par2 (i := 3) (j := 4) rfl sc__law_parameter.nd rfl rfl rfl rfl (da_cons (de_sub (DE.toB (cal_G C__law_draw hr hG (by rfl) (da_cons (de_of (pv 0)) (da_cons de_int da_nil)))) (de_int).toB) (da_cons (de_add (de_int).toB (DE.toB (cal_G C__law_draw hr hG (by rfl) (da_cons (de_of (pv 0)) (da_cons (de_if (dt_cmp (cd_eq hr.units) (db_of (pv 2)) (de_int).toB) de_int de_int) da_nil))))) da_nil)))))
  (dss_one (ds_ret (de_if (dw_pt (dw_or (dt_cmp (cd_ne hr.units) (db_of (pv 3)) (de_int).toB) (dw_or1 (dt_val (de_of (pv 1)))))) (cal_N C__law_pair hr hG (by rfl) 0 (da_cons (de_of (pv 3)) (da_cons (de_of (pv 4)) da_nil))) (de_tup (da_cons (de_neg (de_int).toB) (da_cons de_int da_nil)))))))), fun ds q x h => ((fn__law_parameter_eq ds q x).mp h).2 d⟩
theorem ok__law_near (F : FnP K "_law_near" (top 37) [] f fd) (T : Txt K mg) (C__law_pair : Cal__law_pair P w K mg base) (C__law_pick : Cal__law_pick P w K mg base) : FnG P w K mg base CX0 3 f fd p__law_near (spG K "cells" false fn__law_near) :=
  okG F sc__law_near (fun ds q x h => by rw [((fn__law_near_eq ds q x).mp h).1]; rfl) fun cdv A outer s H E d l hr hG => ⟨[], g__law_near d, (dss_cons (ds_asg (cal_G C__law_pick hr hG (by rfl) (da_cons (de_of (pv 0)) (da_cons (DF.toE (df_lst (da_cons (de_tup (da_cons (de_neg (DE.toB (de_ix (db_of (pv 1)) (de_int).toB))) (da_cons (de_ix (db_of (pv 1)) (de_int).toB) da_nil))) (da_cons (de_tup (da_cons (de_sub (DE.toB (de_ix (db_of (pv 1)) (de_int).toB)) (DE.toB (de_ix (db_of (pv 1)) (de_int).toB))) (da_cons (de_ix (db_of (pv 1)) (de_int).toB) da_nil))) (da_cons (de_tup (da_cons (de_mul (DE.toB (de_neg (de_int).toB)) (DE.toB (de_ix (db_of (pv 1)) (de_int).toB))) (da_cons (de_ix (db_of (pv 1)) (de_int).toB) da_nil))) (da_cons (de_tup (da_cons (de_sub (DE.toB (de_mul (de_int).toB (DE.toB (de_ix (db_of (pv 1)) (de_int).toB)))) (DE.toB (de_mul (de_int).toB (DE.toB (de_ix (db_of (pv 1)) (de_int).toB))))) (da_cons (de_ix (db_of (pv 1)) (de_int).toB) da_nil))) (da_cons (de_tup (da_cons (de_sub (DE.toB (de_neg (DE.toB (de_ix (db_of (pv 1)) (de_int).toB)))) (DE.toB (de_mul (de_int).toB (DE.toB (de_ix (db_of (pv 1)) (de_int).toB))))) (da_cons (de_ix (db_of (pv 1)) (de_int).toB) da_nil))) da_nil))))))) da_nil))) (dg_tup rfl (dgs_cons (dg_name (i := 2) sc__law_near.nd rfl (by first | exact .inl rfl | exact .inr rfl)) (dgs_cons (dg_name (i := 3) sc__law_near.nd rfl (by first | exact .inl rfl | exact .inr rfl)) dgs_nil))))
  (dss_cons (ds_set (i := 4) sc__law_near.nd rfl (by first | exact .inl rfl | exact .inr rfl) (cal_N C__law_pair hr hG (by rfl) 0 (da_cons (de_of (pv 2)) (da_cons (de_of (pv 3)) da_nil))))
  (dss_one (ds_ret (de_if (dt_cmp cd_le (DE.toB (de_abs (by rfl) T.n_abs (DE.toB (de_ix (db_of (pv 4)) (de_int).toB)))) (de_int).toB) (de_of (pv 4)) (de_tup (da_cons de_int (da_cons de_int da_nil)))))))), fun ds q x h => ((fn__law_near_eq ds q x).mp h).2 d⟩
theorem ok_law (F : FnP K "law" (top 38) [] f fd) (T : Txt K mg) (C__law_deck : Cal__law_deck P w K mg base) (C__law_draw : Cal__law_draw P w K mg base) (C__law_named_verdict : Cal__law_named_verdict P w K mg base) (C__law_near : Cal__law_near P w K mg base) (C__law_pair : Cal__law_pair P w K mg base) (C__law_parameter : Cal__law_parameter P w K mg base) (C__law_pick : Cal__law_pick P w K mg base) (C_bessel_verdict : Cal_bessel_verdict P w K mg base) (C_charlier_verdict : Cal_charlier_verdict P w K mg base) (C_gegenbauer_verdict : Cal_gegenbauer_verdict P w K mg base) (C_hermite_verdict : Cal_hermite_verdict P w K mg base) (C_laguerre_verdict : Cal_laguerre_verdict P w K mg base) (C_meixner_verdict : Cal_meixner_verdict P w K mg base) (C_steady_verdict : Cal_steady_verdict P w K mg base) (G : ∀ a d, g_law d (lawStart 13 a d) lawEnds) : FnG P w K mg base CX0 7 f fd p_law (spLaw K) := by
  refine okLaw (nm := "cells") F sc_law rfl (by decide) (fun cdv A outer s H E hr hG => ?_) fun cdv A outer s H E a d l hr hG => ⟨[], g_law d, ?_, G a d⟩
  · obtain ⟨fD, fdD, h1, h2, h3, h4, _⟩ := C__law_deck.ex
    obtain ⟨dvs, dss, b1, b2, b3⟩ := h4 [] (List.mem_cons_self ..)
    have e1 := b3 fun _ => none
    cases dvs with
    | cons v vs => cases e1
    | nil =>
      cases b2
      exact ps_set (i := 1) sc_law.nd rfl (.inl rfl) (pe_callG h1 (hr.mono (by decide)) hG (by rfl) h2 h3 b1 .nil passN (pa_cons (pv 0) pa_nil)) rfl (.inl rfl)
  · exact (dss_cons (ds_for PassesOwn.never rfl (di_range1 (by rfl) T.n_range de_int) (dg_name (i := 2) sc_law.nd rfl (by first | exact .inl rfl | exact .inr rfl))
  (dss_cons (ds_par2 (i := 3) (j := 4) rfl sc_law.nd rfl rfl rfl rfl (da_cons (cal_G C__law_parameter hr hG (by rfl) (da_cons (de_of (pv 1)) (da_cons de_bl da_nil))) (da_cons (cal_G C__law_parameter hr hG (by rfl) (da_cons (de_of (pv 1)) (da_cons de_bl da_nil))) da_nil)))
  (dss_cons (ds_set (i := 5) sc_law.nd rfl (by first | exact .inl rfl | exact .inr rfl) (de_if (dt_cmp (cd_eq hr.units) (DE.toB (cal_G C__law_draw hr hG (by rfl) (da_cons (de_of (pv 1)) (da_cons de_int da_nil)))) (de_int).toB) (cal_G C__law_near hr hG (by rfl) (da_cons (de_of (pv 1)) (da_cons (de_of (pv 3)) da_nil))) (cal_G C__law_parameter hr hG (by rfl) (da_cons (de_of (pv 1)) (da_cons de_bl da_nil)))))
  (dss_cons (ds_set (i := 6) sc_law.nd rfl (by first | exact .inl rfl | exact .inr rfl) (cal_G C__law_pick hr hG (by rfl) (da_cons (de_of (pv 1)) (da_cons (DF.toE (df_lst (da_cons (de_tup (da_cons de_int (da_cons de_int da_nil))) (da_cons (de_tup (da_cons (de_neg (de_int).toB) (da_cons de_int da_nil))) (da_cons (de_tup (da_cons (de_neg (de_int).toB) (da_cons de_int da_nil))) (da_cons (cal_G C__law_parameter hr hG (by rfl) (da_cons (de_of (pv 1)) (da_cons de_bl da_nil))) (da_cons (cal_G C__law_parameter hr hG (by rfl) (da_cons (de_of (pv 1)) (da_cons de_bl da_nil))) da_nil))))))) da_nil))))
  (dss_cons (ds_set (i := 7) sc_law.nd rfl (by first | exact .inl rfl | exact .inr rfl) (DF.toE (df_lst (da_cons (cal_N C_steady_verdict hr hG (by rfl) 0 (da_cons (de_of (pv 3)) (da_cons (de_of (pv 6)) da_nil))) (da_cons (cal_N C_hermite_verdict hr hG (by rfl) 0 (da_cons (de_of (pv 3)) (da_cons (de_of (pv 4)) da_nil))) (da_cons (cal_N C_bessel_verdict hr hG (by rfl) 0 (da_cons (de_of (pv 3)) (da_cons (de_of (pv 5)) (da_cons (de_of (pv 6)) da_nil)))) (da_cons (cal_N C_gegenbauer_verdict hr hG (by rfl) 0 (da_cons (de_of (pv 3)) (da_cons (de_of (pv 5)) da_nil))) (da_cons (cal_N C_laguerre_verdict hr hG (by rfl) 0 (da_cons (de_of (pv 3)) (da_cons (de_of (pv 5)) da_nil))) da_nil))))))))
  (dss_cons (ds_set (i := 7) sc_law.nd rfl (by first | exact .inl rfl | exact .inr rfl) (de_add (db_of (pv 7)) (DE.toB (DF.toE (df_lst (da_cons (cal_N C_charlier_verdict hr hG (by rfl) 0 (da_cons (de_of (pv 3)) (da_cons (de_of (pv 6)) da_nil))) (da_cons (cal_N C_meixner_verdict hr hG (by rfl) 0 (da_cons (de_of (pv 3)) (da_cons (de_of (pv 5)) (da_cons (de_of (pv 6)) da_nil)))) da_nil)))))))
  (dss_cons (ds_set (i := 8) sc_law.nd rfl (by first | exact .inl rfl | exact .inr rfl) (DF.toE (df_lst (da_cons (cal_K0 C_steady_verdict hr hG (by rfl) 0 ["t", "x"] [1, 0] (dk_cons (de_of (pv 6)) (dk_cons (de_of (pv 3)) dk_nil))) (da_cons (cal_K0 C_hermite_verdict hr hG (by rfl) 0 ["t", "x"] [1, 0] (dk_cons (de_of (pv 4)) (dk_cons (de_of (pv 3)) dk_nil))) (da_cons (cal_K0 C_bessel_verdict hr hG (by rfl) 0 ["t", "l", "x"] [2, 1, 0] (dk_cons (de_of (pv 6)) (dk_cons (de_of (pv 5)) (dk_cons (de_of (pv 3)) dk_nil)))) (da_cons (cal_K0 C_gegenbauer_verdict hr hG (by rfl) 0 ["l", "x"] [1, 0] (dk_cons (de_of (pv 5)) (dk_cons (de_of (pv 3)) dk_nil))) da_nil)))))))
  (dss_cons (ds_set (i := 8) sc_law.nd rfl (by first | exact .inl rfl | exact .inr rfl) (de_add (db_of (pv 8)) (DE.toB (DF.toE (df_lst (da_cons (cal_K0 C_laguerre_verdict hr hG (by rfl) 0 ["l", "x"] [1, 0] (dk_cons (de_of (pv 5)) (dk_cons (de_of (pv 3)) dk_nil))) (da_cons (cal_K0 C_charlier_verdict hr hG (by rfl) 0 ["t", "x"] [1, 0] (dk_cons (de_of (pv 6)) (dk_cons (de_of (pv 3)) dk_nil))) (da_cons (cal_K0 C_meixner_verdict hr hG (by rfl) 0 ["t", "l", "x"] [2, 1, 0] (dk_cons (de_of (pv 6)) (dk_cons (de_of (pv 5)) (dk_cons (de_of (pv 3)) dk_nil)))) da_nil))))))))
  (dss_cons (ds_set (i := 9) sc_law.nd rfl (by first | exact .inl rfl | exact .inr rfl) (DF.toE (df_lst (da_cons (cal_N C__law_named_verdict hr hG (by rfl) 0 (da_cons de_str (da_cons (de_tup (da_cons (de_of (pv 3)) (da_cons (de_of (pv 6)) da_nil))) da_nil))) (da_cons (cal_N C__law_named_verdict hr hG (by rfl) 0 (da_cons de_str (da_cons (de_tup (da_cons (de_of (pv 3)) (da_cons (de_of (pv 4)) da_nil))) da_nil))) (da_cons (cal_N C__law_named_verdict hr hG (by rfl) 0 (da_cons de_str (da_cons (de_tup (da_cons (de_of (pv 3)) (da_cons (de_of (pv 5)) (da_cons (de_of (pv 6)) da_nil)))) da_nil))) da_nil))))))
  (dss_cons (ds_set (i := 9) sc_law.nd rfl (by first | exact .inl rfl | exact .inr rfl) (de_add (db_of (pv 9)) (DE.toB (DF.toE (df_lst (da_cons (cal_N C__law_named_verdict hr hG (by rfl) 0 (da_cons de_str (da_cons (de_tup (da_cons (de_of (pv 3)) (da_cons (de_of (pv 5)) da_nil))) da_nil))) (da_cons (cal_N C__law_named_verdict hr hG (by rfl) 0 (da_cons de_str (da_cons (de_tup (da_cons (de_of (pv 3)) (da_cons (de_of (pv 5)) da_nil))) da_nil))) da_nil)))))))
  (dss_cons (ds_set (i := 9) sc_law.nd rfl (by first | exact .inl rfl | exact .inr rfl) (de_add (db_of (pv 9)) (DE.toB (DF.toE (df_lst (da_cons (cal_N C__law_named_verdict hr hG (by rfl) 0 (da_cons de_str (da_cons (de_tup (da_cons (de_of (pv 3)) (da_cons (de_of (pv 6)) da_nil))) da_nil))) (da_cons (cal_N C__law_named_verdict hr hG (by rfl) 0 (da_cons de_str (da_cons (de_tup (da_cons (de_of (pv 3)) (da_cons (de_of (pv 5)) (da_cons (de_of (pv 6)) da_nil)))) da_nil))) da_nil)))))))
  (dss_cons (ds_if (dt_cmp (cd_ne hr.units) (DE.toB (de_repr hG hr.units (by rfl) T.n_repr (DE.toB (de_tup (da_cons (de_of (pv 7)) (da_cons (de_of (pv 8)) da_nil)))))) (DE.toB (de_repr hG hr.units (by rfl) T.n_repr (DE.toB (de_tup (da_cons (de_of (pv 9)) (da_cons (de_of (pv 9)) da_nil)))))))
  (dss_one (ds_ret de_bl))
  dss_nil)
  (dss_cons (ds_set (i := 10) sc_law.nd rfl (by first | exact .inl rfl | exact .inr rfl) (de_tup (da_cons (de_neg (DE.toB (de_ix (db_of (pv 3)) (de_int).toB))) (da_cons (de_ix (db_of (pv 3)) (de_int).toB) da_nil))))
  (dss_cons (ds_if (dt_cmp (cd_ne hr.units) (DE.toB (DF.toE (df_lst (da_cons (cal_N C_hermite_verdict hr hG (by rfl) 0 (da_cons (de_of (pv 10)) (da_cons (de_of (pv 4)) da_nil))) (da_cons (cal_N C_bessel_verdict hr hG (by rfl) 0 (da_cons (de_of (pv 10)) (da_cons (de_of (pv 5)) (da_cons (de_of (pv 6)) da_nil)))) (da_cons (cal_N C_gegenbauer_verdict hr hG (by rfl) 0 (da_cons (de_of (pv 10)) (da_cons (de_of (pv 5)) da_nil))) da_nil)))))) (DE.toB (de_sl (db_of (pv 7)) (do_some de_int) (do_some de_int))))
  (dss_one (ds_ret de_bl))
  dss_nil)
  (dss_cons (ds_par2 (i := 11) (j := 12) rfl sc_law.nd rfl rfl rfl rfl (da_cons (cal_N C__law_pair hr hG (by rfl) 0 (da_cons (de_sub (DE.toB (de_mul (DE.toB (de_neg (DE.toB (de_ix (db_of (pv 3)) (de_int).toB)))) (DE.toB (de_ix (db_of (pv 5)) (de_int).toB)))) (DE.toB (de_mul (DE.toB (de_ix (db_of (pv 5)) (de_int).toB)) (DE.toB (de_ix (db_of (pv 3)) (de_int).toB))))) (da_cons (de_mul (DE.toB (de_ix (db_of (pv 3)) (de_int).toB)) (DE.toB (de_ix (db_of (pv 5)) (de_int).toB))) da_nil))) (da_cons (cal_N C__law_pair hr hG (by rfl) 0 (da_cons (de_ix (db_of (pv 6)) (de_int).toB) (da_cons (de_ix (db_of (pv 6)) (de_int).toB) da_nil))) da_nil)))
  (dss_one (ds_if (dw_pt (dw_and (dt_cmp cd_le (DE.toB (de_abs (by rfl) T.n_abs (DE.toB (de_ix (db_of (pv 11)) (de_int).toB)))) (de_int).toB) (dw_and (dt_cmp cd_le (DE.toB (de_ix (db_of (pv 11)) (de_int).toB)) (de_int).toB) (dw_and (dt_cmp cd_le (DE.toB (de_ix (db_of (pv 12)) (de_int).toB)) (de_int).toB) (dw_and1 (dt_cmp (cd_ne hr.units) (DE.toB (cal_N C_meixner_verdict hr hG (by rfl) 0 (da_cons (de_of (pv 11)) (da_cons (de_of (pv 5)) (da_cons (de_of (pv 12)) da_nil))))) (DE.toB (de_ix (db_of (pv 7)) (de_int).toB))))))))
  (dss_one (ds_ret de_bl))
  dss_nil)))))))))))))))))
  (dss_one (ds_ret de_bl)))
end
end K54

namespace K54
open PySem PySem.Spec PyProof.Rows L2 DL
structure Par (a b : Int) : Prop where
  lo : -40 ≤ a
  hi : a ≤ 40
  b1 : 1 ≤ b
  b12 : b ≤ 12
  g : gcdI a b = 1
section
variable (q : D → Prop) (x : XD)
theorem is_whole_int (i : Int) : fn_is_whole [.int i] q x = q (.bl true) := by
  rw [fn_is_whole_eq]; unfold g_is_whole
  simp [fSeq, fIfS, fRet, fRetN, fDrop, fAsg, fName, fGtup, fGcons, fGnil, fVar, fK, f1, f2, fNil, fCons, fTup, fLst, fCall, fCallG, fCallK, fTest, gNot, gAnd, gOr, hAnd, hOr, hNot, fIf, fPar2, fPar3, fSkip, fNever, fBrk, fCnt, fItT, fItL, fFor, forL, startD, entry, pick, sIx, sSub, sMul, sDiv, sMod, sPow, sMax2, sMin2, sGcd, sI, sI0, sAdd, sCmp, sLen, sAbs, sInt, sTuple, sList, sNeg, sIsi, sIsN, D.isNon, D.ty,
  DL.lt', DL.le', DL.gt', DL.ge', fSl, fPart, fNo, List.map_cons, List.map_nil, List.length_cons, List.length_nil, List.append_nil, List.nil_append, List.cons_append, List.getElem?_cons_zero, List.getElem?_cons_succ, List.set_cons_zero, List.set_cons_succ, List.replicate_succ, List.replicate_zero, List.filterMap_cons, List.filterMap_nil, Nat.zero_add, Nat.reduceAdd, if_true, if_false, Bool.false_eq_true, isTy_int_int, isTy_bool_int]
theorem is_parameter_pr {a b : Int} (P : Par a b) : fn_is_parameter [pr a b] q x = q (.bl true) := by
  have h1 : absI a ≤ 40 := by have := P.lo; have := P.hi; unfold absI; split <;> omega
  rw [fn_is_parameter_eq]; unfold g_is_parameter
  simp [fSeq, fIfS, fRet, fRetN, fDrop, fAsg, fName, fGtup, fGcons, fGnil, fVar, fK, f1, f2, fNil, fCons, fTup, fLst, fCall, fCallG, fCallK, fTest, gNot, gAnd, gOr, hAnd, hOr, hNot, fIf, fPar2, fPar3, fSkip, fNever, fBrk, fCnt, fItT, fItL, fFor, forL, startD, entry, pick, sIx, sSub, sMul, sDiv, sMod, sPow, sMax2, sMin2, sGcd, sI, sI0, sAdd, sCmp, sLen, sAbs, sInt, sTuple, sList, sNeg, sIsi, sIsN, D.isNon, D.ty,
  DL.lt', DL.le', DL.gt', DL.ge', fSl, fPart, fNo, List.map_cons, List.map_nil, List.length_cons, List.length_nil, List.append_nil, List.nil_append, List.cons_append, List.getElem?_cons_zero, List.getElem?_cons_succ, List.set_cons_zero, List.set_cons_succ, List.replicate_succ, List.replicate_zero, List.filterMap_cons, List.filterMap_nil, Nat.zero_add, Nat.reduceAdd, if_true, if_false, Bool.false_eq_true, fn_is_pair_value_eq, g_is_pair_value, isTy_tuple_tuple, is_whole_int, sEq, atI, ixN, P.g, P.b1, P.b12, h1]
theorem need0 : fn_need_parameters [.tup [], .non] q x = q .non := by
  rw [fn_need_parameters_eq]; unfold g_need_parameters
  simp [fSeq, fIfS, fRet, fRetN, fDrop, fAsg, fName, fGtup, fGcons, fGnil, fVar, fK, f1, f2, fNil, fCons, fTup, fLst, fCall, fCallG, fCallK, fTest, gNot, gAnd, gOr, hAnd, hOr, hNot, fIf, fPar2, fPar3, fSkip, fNever, fBrk, fCnt, fItT, fItL, fFor, forL, startD, entry, pick, sIx, sSub, sMul, sDiv, sMod, sPow, sMax2, sMin2, sGcd, sI, sI0, sAdd, sCmp, sLen, sAbs, sInt, sTuple, sList, sNeg, sIsi, sIsN, D.isNon, D.ty,
  DL.lt', DL.le', DL.gt', DL.ge', fSl, fPart, fNo, List.map_cons, List.map_nil, List.length_cons, List.length_nil, List.append_nil, List.nil_append, List.cons_append, List.getElem?_cons_zero, List.getElem?_cons_succ, List.set_cons_zero, List.set_cons_succ, List.replicate_succ, List.replicate_zero, List.filterMap_cons, List.filterMap_nil, Nat.zero_add, Nat.reduceAdd, if_true, if_false, Bool.false_eq_true]
theorem need0t {a b : Int} (h : a ≠ 0) : fn_need_parameters [.tup [], pr a b] q x = q .non := by
  rw [fn_need_parameters_eq]; unfold g_need_parameters
  simp [fSeq, fIfS, fRet, fRetN, fDrop, fAsg, fName, fGtup, fGcons, fGnil, fVar, fK, f1, f2, fNil, fCons, fTup, fLst, fCall, fCallG, fCallK, fTest, gNot, gAnd, gOr, hAnd, hOr, hNot, fIf, fPar2, fPar3, fSkip, fNever, fBrk, fCnt, fItT, fItL, fFor, forL, startD, entry, pick, sIx, sSub, sMul, sDiv, sMod, sPow, sMax2, sMin2, sGcd, sI, sI0, sAdd, sCmp, sLen, sAbs, sInt, sTuple, sList, sNeg, sIsi, sIsN, D.isNon, D.ty,
  DL.lt', DL.le', DL.gt', DL.ge', fSl, fPart, fNo, List.map_cons, List.map_nil, List.length_cons, List.length_nil, List.append_nil, List.nil_append, List.cons_append, List.getElem?_cons_zero, List.getElem?_cons_succ, List.set_cons_zero, List.set_cons_succ, List.replicate_succ, List.replicate_zero, List.filterMap_cons, List.filterMap_nil, Nat.zero_add, Nat.reduceAdd, if_true, if_false, Bool.false_eq_true, sEq, atI, ixN, h]
theorem need1 {a b : Int} (P : Par a b) : fn_need_parameters [.tup [pr a b], .non] q x = q .non := by
  rw [fn_need_parameters_eq]; unfold g_need_parameters
  simp [fSeq, fIfS, fRet, fRetN, fDrop, fAsg, fName, fGtup, fGcons, fGnil, fVar, fK, f1, f2, fNil, fCons, fTup, fLst, fCall, fCallG, fCallK, fTest, gNot, gAnd, gOr, hAnd, hOr, hNot, fIf, fPar2, fPar3, fSkip, fNever, fBrk, fCnt, fItT, fItL, fFor, forL, startD, entry, pick, sIx, sSub, sMul, sDiv, sMod, sPow, sMax2, sMin2, sGcd, sI, sI0, sAdd, sCmp, sLen, sAbs, sInt, sTuple, sList, sNeg, sIsi, sIsN, D.isNon, D.ty,
  DL.lt', DL.le', DL.gt', DL.ge', fSl, fPart, fNo, List.map_cons, List.map_nil, List.length_cons, List.length_nil, List.append_nil, List.nil_append, List.cons_append, List.getElem?_cons_zero, List.getElem?_cons_succ, List.set_cons_zero, List.set_cons_succ, List.replicate_succ, List.replicate_zero, List.filterMap_cons, List.filterMap_nil, Nat.zero_add, Nat.reduceAdd, if_true, if_false, Bool.false_eq_true, is_parameter_pr _ _ P]
theorem need2 {a b c d : Int} (P : Par a b) (R : Par c d) : fn_need_parameters [.tup [pr a b, pr c d], .non] q x = q .non := by
  rw [fn_need_parameters_eq]; unfold g_need_parameters
  simp [fSeq, fIfS, fRet, fRetN, fDrop, fAsg, fName, fGtup, fGcons, fGnil, fVar, fK, f1, f2, fNil, fCons, fTup, fLst, fCall, fCallG, fCallK, fTest, gNot, gAnd, gOr, hAnd, hOr, hNot, fIf, fPar2, fPar3, fSkip, fNever, fBrk, fCnt, fItT, fItL, fFor, forL, startD, entry, pick, sIx, sSub, sMul, sDiv, sMod, sPow, sMax2, sMin2, sGcd, sI, sI0, sAdd, sCmp, sLen, sAbs, sInt, sTuple, sList, sNeg, sIsi, sIsN, D.isNon, D.ty,
  DL.lt', DL.le', DL.gt', DL.ge', fSl, fPart, fNo, List.map_cons, List.map_nil, List.length_cons, List.length_nil, List.append_nil, List.nil_append, List.cons_append, List.getElem?_cons_zero, List.getElem?_cons_succ, List.set_cons_zero, List.set_cons_succ, List.replicate_succ, List.replicate_zero, List.filterMap_cons, List.filterMap_nil, Nat.zero_add, Nat.reduceAdd, if_true, if_false, Bool.false_eq_true, is_parameter_pr _ _ P, is_parameter_pr _ _ R]
theorem need3 {a b c d e f : Int} (P : Par a b) (R : Par c d) (T : Par e f) : fn_need_parameters [.tup [pr a b, pr c d, pr e f], .non] q x = q .non := by
  rw [fn_need_parameters_eq]; unfold g_need_parameters
  simp [fSeq, fIfS, fRet, fRetN, fDrop, fAsg, fName, fGtup, fGcons, fGnil, fVar, fK, f1, f2, fNil, fCons, fTup, fLst, fCall, fCallG, fCallK, fTest, gNot, gAnd, gOr, hAnd, hOr, hNot, fIf, fPar2, fPar3, fSkip, fNever, fBrk, fCnt, fItT, fItL, fFor, forL, startD, entry, pick, sIx, sSub, sMul, sDiv, sMod, sPow, sMax2, sMin2, sGcd, sI, sI0, sAdd, sCmp, sLen, sAbs, sInt, sTuple, sList, sNeg, sIsi, sIsN, D.isNon, D.ty,
  DL.lt', DL.le', DL.gt', DL.ge', fSl, fPart, fNo, List.map_cons, List.map_nil, List.length_cons, List.length_nil, List.append_nil, List.nil_append, List.cons_append, List.getElem?_cons_zero, List.getElem?_cons_succ, List.set_cons_zero, List.set_cons_succ, List.replicate_succ, List.replicate_zero, List.filterMap_cons, List.filterMap_nil, Nat.zero_add, Nat.reduceAdd, if_true, if_false, Bool.false_eq_true, is_parameter_pr _ _ P, is_parameter_pr _ _ R, is_parameter_pr _ _ T]
theorem LN1 : (1 : Nat) ≤ LN := by decide
theorem LN2 : (2 : Nat) ≤ LN := by decide
theorem LN3 : (3 : Nat) ≤ LN := by decide
theorem need_t1 {a b e f : Int} (P : Par a b) (T : Par e f) (h : e ≠ 0) : fn_need_t [.tup [pr a b], pr e f] q x = q .non := by
  rw [fn_need_t_eq]; unfold g_need_t
  simp [fSeq, fIfS, fRet, fRetN, fDrop, fAsg, fName, fGtup, fGcons, fGnil, fVar, fK, f1, f2, fNil, fCons, fTup, fLst, fCall, fCallG, fCallK, fTest, gNot, gAnd, gOr, hAnd, hOr, hNot, fIf, fPar2, fPar3, fSkip, fNever, fBrk, fCnt, fItT, fItL, fFor, forL, startD, entry, pick, sIx, sSub, sMul, sDiv, sMod, sPow, sMax2, sMin2, sGcd, sI, sI0, sAdd, sCmp, sLen, sAbs, sInt, sTuple, sList, sNeg, sIsi, sIsN, D.isNon, D.ty,
  DL.lt', DL.le', DL.gt', DL.ge', fSl, fPart, fNo, List.map_cons, List.map_nil, List.length_cons, List.length_nil, List.append_nil, List.nil_append, List.cons_append, List.getElem?_cons_zero, List.getElem?_cons_succ, List.set_cons_zero, List.set_cons_succ, List.replicate_succ, List.replicate_zero, List.filterMap_cons, List.filterMap_nil, Nat.zero_add, Nat.reduceAdd, if_true, if_false, Bool.false_eq_true, need2 _ _ P T, need0t _ _ h, LN1, LN2]
theorem need_t2 {a b c d e f : Int} (P : Par a b) (R : Par c d) (T : Par e f) (h : e ≠ 0) : fn_need_t [.tup [pr a b, pr c d], pr e f] q x = q .non := by
  rw [fn_need_t_eq]; unfold g_need_t
  simp [fSeq, fIfS, fRet, fRetN, fDrop, fAsg, fName, fGtup, fGcons, fGnil, fVar, fK, f1, f2, fNil, fCons, fTup, fLst, fCall, fCallG, fCallK, fTest, gNot, gAnd, gOr, hAnd, hOr, hNot, fIf, fPar2, fPar3, fSkip, fNever, fBrk, fCnt, fItT, fItL, fFor, forL, startD, entry, pick, sIx, sSub, sMul, sDiv, sMod, sPow, sMax2, sMin2, sGcd, sI, sI0, sAdd, sCmp, sLen, sAbs, sInt, sTuple, sList, sNeg, sIsi, sIsN, D.isNon, D.ty,
  DL.lt', DL.le', DL.gt', DL.ge', fSl, fPart, fNo, List.map_cons, List.map_nil, List.length_cons, List.length_nil, List.append_nil, List.nil_append, List.cons_append, List.getElem?_cons_zero, List.getElem?_cons_succ, List.set_cons_zero, List.set_cons_succ, List.replicate_succ, List.replicate_zero, List.filterMap_cons, List.filterMap_nil, Nat.zero_add, Nat.reduceAdd, if_true, if_false, Bool.false_eq_true, need3 _ _ P R T, need0t _ _ h, LN1, LN3]
theorem is_zero_pr (a b : Int) : fn_is_zero [pr a b] q x = q (.bl (decide (a = 0))) := by
  rw [fn_is_zero_eq]; unfold g_is_zero
  simp [fSeq, fIfS, fRet, fRetN, fDrop, fAsg, fName, fGtup, fGcons, fGnil, fVar, fK, f1, f2, fNil, fCons, fTup, fLst, fCall, fCallG, fCallK, fTest, gNot, gAnd, gOr, hAnd, hOr, hNot, fIf, fPar2, fPar3, fSkip, fNever, fBrk, fCnt, fItT, fItL, fFor, forL, startD, entry, pick, sIx, sSub, sMul, sDiv, sMod, sPow, sMax2, sMin2, sGcd, sI, sI0, sAdd, sCmp, sLen, sAbs, sInt, sTuple, sList, sNeg, sIsi, sIsN, D.isNon, D.ty,
  DL.lt', DL.le', DL.gt', DL.ge', fSl, fPart, fNo, List.map_cons, List.map_nil, List.length_cons, List.length_nil, List.append_nil, List.nil_append, List.cons_append, List.getElem?_cons_zero, List.getElem?_cons_succ, List.set_cons_zero, List.set_cons_succ, List.replicate_succ, List.replicate_zero, List.filterMap_cons, List.filterMap_nil, Nat.zero_add, Nat.reduceAdd, if_true, if_false, Bool.false_eq_true, sEq, atI, ixN]
theorem is_int_pr {a b : Int} (h : b ≠ 0) : fn_is_integer_pair [pr a b] q x = q (.bl (decide (a.fmod b = 0))) := by
  rw [fn_is_integer_pair_eq]; unfold g_is_integer_pair
  simp [fSeq, fIfS, fRet, fRetN, fDrop, fAsg, fName, fGtup, fGcons, fGnil, fVar, fK, f1, f2, fNil, fCons, fTup, fLst, fCall, fCallG, fCallK, fTest, gNot, gAnd, gOr, hAnd, hOr, hNot, fIf, fPar2, fPar3, fSkip, fNever, fBrk, fCnt, fItT, fItL, fFor, forL, startD, entry, pick, sIx, sSub, sMul, sDiv, sMod, sPow, sMax2, sMin2, sGcd, sI, sI0, sAdd, sCmp, sLen, sAbs, sInt, sTuple, sList, sNeg, sIsi, sIsN, D.isNon, D.ty,
  DL.lt', DL.le', DL.gt', DL.ge', fSl, fPart, fNo, List.map_cons, List.map_nil, List.length_cons, List.length_nil, List.append_nil, List.nil_append, List.cons_append, List.getElem?_cons_zero, List.getElem?_cons_succ, List.set_cons_zero, List.set_cons_succ, List.replicate_succ, List.replicate_zero, List.filterMap_cons, List.filterMap_nil, Nat.zero_add, Nat.reduceAdd, if_true, if_false, Bool.false_eq_true, sEq, atI, ixN, h]
theorem is_int_par {a b : Int} (P : Par a b) : fn_is_integer_pair [pr a b] q x = q (.bl (decide (b = 1))) := by
  have := P.b1
  rw [is_int_pr q x (by omega)]
  congr 2
  exact decide_eq_decide.mpr (whole_iff (by omega) P.g)
theorem total2 {a b c d : Int} (P : Par a b) (R : Par c d) : fn_total [.lst [.tup [pr a b], .tup [pr c d]]] q x = q (pr (a * d + c * b) (b * d)) := by
  have := P.lo; have := P.hi; have := P.b1; have := P.b12
  have := R.lo; have := R.hi; have := R.b1; have := R.b12
  have m1 := mulOk_l (a := a) (b := d) (by omega) (by omega)
  have m2 := mulOk_l (a := c) (b := b) (by omega) (by omega)
  have m3 := mulOk_l (a := b) (b := d) (by omega) (by omega)
  have m4 : ∀ z, IntMulOk 1 z := fun z => mulOk_l (by omega) (by omega)
  have m5 : ∀ z, IntMulOk 0 z := fun z => mulOk_l (by omega) (by omega)
  have m6 : ∀ z, IntMulOk z 1 := fun z => mulOk_r (by omega) (by omega)
  rw [fn_total_eq]; unfold g_total
  simp [fSeq, fIfS, fRet, fRetN, fDrop, fAsg, fName, fGtup, fGcons, fGnil, fVar, fK, f1, f2, fNil, fCons, fTup, fLst, fCall, fCallG, fCallK, fTest, gNot, gAnd, gOr, hAnd, hOr, hNot, fIf, fPar2, fPar3, fSkip, fNever, fBrk, fCnt, fItT, fItL, fFor, forL, startD, entry, pick, sIx, sSub, sMul, sDiv, sMod, sPow, sMax2, sMin2, sGcd, sI, sI0, sAdd, sCmp, sLen, sAbs, sInt, sTuple, sList, sNeg, sIsi, sIsN, D.isNon, D.ty,
  DL.lt', DL.le', DL.gt', DL.ge', fSl, fPart, fNo, List.map_cons, List.map_nil, List.length_cons, List.length_nil, List.append_nil, List.nil_append, List.cons_append, List.getElem?_cons_zero, List.getElem?_cons_succ, List.set_cons_zero, List.set_cons_succ, List.replicate_succ, List.replicate_zero, List.filterMap_cons, List.filterMap_nil, Nat.zero_add, Nat.reduceAdd, if_true, if_false, Bool.false_eq_true, LN2, m1, m2, m3, m4, m5, m6]
theorem total3 {a b c d : Int} (P : Par a b) (R : Par c d) : fn_total [.lst [.tup [pr 2 1, pr a b], .tup [pr c d]]] q x = q (pr (2 * a * d + c * b) (b * d)) := by
  have := P.lo; have := P.hi; have := P.b1; have := P.b12
  have := R.lo; have := R.hi; have := R.b1; have := R.b12
  have m1 := mulOk_r (a := 2 * a) (b := d) (by omega) (by omega)
  have m2 := mulOk_l (a := c) (b := b) (by omega) (by omega)
  have m3 := mulOk_l (a := b) (b := d) (by omega) (by omega)
  have m4 : ∀ z, IntMulOk 1 z := fun z => mulOk_l (by omega) (by omega)
  have m5 : ∀ z, IntMulOk 0 z := fun z => mulOk_l (by omega) (by omega)
  have m6 : ∀ z, IntMulOk z 1 := fun z => mulOk_r (by omega) (by omega)
  have m7 : ∀ z, IntMulOk 2 z := fun z => mulOk_l (by omega) (by omega)
  rw [fn_total_eq]; unfold g_total
  simp [fSeq, fIfS, fRet, fRetN, fDrop, fAsg, fName, fGtup, fGcons, fGnil, fVar, fK, f1, f2, fNil, fCons, fTup, fLst, fCall, fCallG, fCallK, fTest, gNot, gAnd, gOr, hAnd, hOr, hNot, fIf, fPar2, fPar3, fSkip, fNever, fBrk, fCnt, fItT, fItL, fFor, forL, startD, entry, pick, sIx, sSub, sMul, sDiv, sMod, sPow, sMax2, sMin2, sGcd, sI, sI0, sAdd, sCmp, sLen, sAbs, sInt, sTuple, sList, sNeg, sIsi, sIsN, D.isNon, D.ty,
  DL.lt', DL.le', DL.gt', DL.ge', fSl, fPart, fNo, List.map_cons, List.map_nil, List.length_cons, List.length_nil, List.append_nil, List.nil_append, List.cons_append, List.getElem?_cons_zero, List.getElem?_cons_succ, List.set_cons_zero, List.set_cons_succ, List.replicate_succ, List.replicate_zero, List.filterMap_cons, List.filterMap_nil, Nat.zero_add, Nat.reduceAdd, if_true, if_false, Bool.false_eq_true, LN2, m1, m2, m3, m4, m5, m6, m7]
theorem whole_eq (k : Int) : fn_whole [.int k] q x = q (pr k 1) := by
  rw [fn_whole_eq]; unfold g_whole
  simp [fSeq, fIfS, fRet, fRetN, fDrop, fAsg, fName, fGtup, fGcons, fGnil, fVar, fK, f1, f2, fNil, fCons, fTup, fLst, fCall, fCallG, fCallK, fTest, gNot, gAnd, gOr, hAnd, hOr, hNot, fIf, fPar2, fPar3, fSkip, fNever, fBrk, fCnt, fItT, fItL, fFor, forL, startD, entry, pick, sIx, sSub, sMul, sDiv, sMod, sPow, sMax2, sMin2, sGcd, sI, sI0, sAdd, sCmp, sLen, sAbs, sInt, sTuple, sList, sNeg, sIsi, sIsN, D.isNon, D.ty,
  DL.lt', DL.le', DL.gt', DL.ge', fSl, fPart, fNo, List.map_cons, List.map_nil, List.length_cons, List.length_nil, List.append_nil, List.nil_append, List.cons_append, List.getElem?_cons_zero, List.getElem?_cons_succ, List.set_cons_zero, List.set_cons_succ, List.replicate_succ, List.replicate_zero, List.filterMap_cons, List.filterMap_nil, Nat.zero_add, Nat.reduceAdd, if_true, if_false, Bool.false_eq_true, LN2]
end
theorem w_steady_hermite : (("steady" : Str) = "hermite") = False := eq_false (by decide +kernel)
theorem w_steady_bessel : (("steady" : Str) = "bessel") = False := eq_false (by decide +kernel)
theorem w_steady_laguerre : (("steady" : Str) = "laguerre") = False := eq_false (by decide +kernel)
theorem w_steady_gegenbauer : (("steady" : Str) = "gegenbauer") = False := eq_false (by decide +kernel)
theorem w_steady_charlier : (("steady" : Str) = "charlier") = False := eq_false (by decide +kernel)
theorem w_steady_meixner : (("steady" : Str) = "meixner") = False := eq_false (by decide +kernel)
theorem w_hermite_steady : (("hermite" : Str) = "steady") = False := eq_false (by decide +kernel)
theorem w_hermite_bessel : (("hermite" : Str) = "bessel") = False := eq_false (by decide +kernel)
theorem w_hermite_laguerre : (("hermite" : Str) = "laguerre") = False := eq_false (by decide +kernel)
theorem w_hermite_gegenbauer : (("hermite" : Str) = "gegenbauer") = False := eq_false (by decide +kernel)
theorem w_hermite_charlier : (("hermite" : Str) = "charlier") = False := eq_false (by decide +kernel)
theorem w_hermite_meixner : (("hermite" : Str) = "meixner") = False := eq_false (by decide +kernel)
theorem w_bessel_steady : (("bessel" : Str) = "steady") = False := eq_false (by decide +kernel)
theorem w_bessel_hermite : (("bessel" : Str) = "hermite") = False := eq_false (by decide +kernel)
theorem w_bessel_laguerre : (("bessel" : Str) = "laguerre") = False := eq_false (by decide +kernel)
theorem w_bessel_gegenbauer : (("bessel" : Str) = "gegenbauer") = False := eq_false (by decide +kernel)
theorem w_bessel_charlier : (("bessel" : Str) = "charlier") = False := eq_false (by decide +kernel)
theorem w_bessel_meixner : (("bessel" : Str) = "meixner") = False := eq_false (by decide +kernel)
theorem w_laguerre_steady : (("laguerre" : Str) = "steady") = False := eq_false (by decide +kernel)
theorem w_laguerre_hermite : (("laguerre" : Str) = "hermite") = False := eq_false (by decide +kernel)
theorem w_laguerre_bessel : (("laguerre" : Str) = "bessel") = False := eq_false (by decide +kernel)
theorem w_laguerre_gegenbauer : (("laguerre" : Str) = "gegenbauer") = False := eq_false (by decide +kernel)
theorem w_laguerre_charlier : (("laguerre" : Str) = "charlier") = False := eq_false (by decide +kernel)
theorem w_laguerre_meixner : (("laguerre" : Str) = "meixner") = False := eq_false (by decide +kernel)
theorem w_gegenbauer_steady : (("gegenbauer" : Str) = "steady") = False := eq_false (by decide +kernel)
theorem w_gegenbauer_hermite : (("gegenbauer" : Str) = "hermite") = False := eq_false (by decide +kernel)
theorem w_gegenbauer_bessel : (("gegenbauer" : Str) = "bessel") = False := eq_false (by decide +kernel)
theorem w_gegenbauer_laguerre : (("gegenbauer" : Str) = "laguerre") = False := eq_false (by decide +kernel)
theorem w_gegenbauer_charlier : (("gegenbauer" : Str) = "charlier") = False := eq_false (by decide +kernel)
theorem w_gegenbauer_meixner : (("gegenbauer" : Str) = "meixner") = False := eq_false (by decide +kernel)
theorem w_charlier_steady : (("charlier" : Str) = "steady") = False := eq_false (by decide +kernel)
theorem w_charlier_hermite : (("charlier" : Str) = "hermite") = False := eq_false (by decide +kernel)
theorem w_charlier_bessel : (("charlier" : Str) = "bessel") = False := eq_false (by decide +kernel)
theorem w_charlier_laguerre : (("charlier" : Str) = "laguerre") = False := eq_false (by decide +kernel)
theorem w_charlier_gegenbauer : (("charlier" : Str) = "gegenbauer") = False := eq_false (by decide +kernel)
theorem w_charlier_meixner : (("charlier" : Str) = "meixner") = False := eq_false (by decide +kernel)
theorem w_meixner_steady : (("meixner" : Str) = "steady") = False := eq_false (by decide +kernel)
theorem w_meixner_hermite : (("meixner" : Str) = "hermite") = False := eq_false (by decide +kernel)
theorem w_meixner_bessel : (("meixner" : Str) = "bessel") = False := eq_false (by decide +kernel)
theorem w_meixner_laguerre : (("meixner" : Str) = "laguerre") = False := eq_false (by decide +kernel)
theorem w_meixner_gegenbauer : (("meixner" : Str) = "gegenbauer") = False := eq_false (by decide +kernel)
theorem w_meixner_charlier : (("meixner" : Str) = "charlier") = False := eq_false (by decide +kernel)

abbrev vF : D := .str "formula"
abbrev vL : D := .str "laid"
abbrev vN : D := .str "nothing"
def vHermite (a : Int) : D := if a = 0 then vL else vN
def vBessel (a : Int) : D := if a = 0 then vF else vN
def vGegen (a b d : Int) : D := if d = 1 ∨ (a = 1 ∧ b = 1) ∨ (a = -1 ∧ b = 1) then vF else if a = 0 then vL else vN
def vCharlier (b : Int) : D := if b = 1 then vF else vN
def vMeixner (a b c d e f : Int) : D := if (e = 1 ∧ f = 1) ∨ b = 1 ∨ (a * d + c * b).fmod (b * d) = 0 then vF else if (e = -1 ∧ f = 1) ∧ (2 * a * d + c * b).fmod (b * d) = 0 then vL else vN
theorem ok_pr (a b : Int) : (pr a b).ok = true := rfl
theorem oks_prs (a b c d : Int) : D.oks [pr a b, pr c d] = true := rfl
section
variable (q : D → Prop) (x : XD)
theorem steady_eq {a b e f : Int} (P : Par a b) (T : Par e f) (h : e ≠ 0) : fn_steady_verdict [pr a b, pr e f] q x = q vF := by
  rw [fn_steady_verdict_eq]; unfold g_steady_verdict
  simp [fSeq, fIfS, fRet, fRetN, fDrop, fAsg, fName, fGtup, fGcons, fGnil, fVar, fK, f1, f2, fNil, fCons, fTup, fLst, fCall, fCallG, fCallK, fTest, gNot, gAnd, gOr, hAnd, hOr, hNot, fIf, fPar2, fPar3, fSkip, fNever, fBrk, fCnt, fItT, fItL, fFor, forL, startD, entry, pick, sIx, sSub, sMul, sDiv, sMod, sPow, sMax2, sMin2, sGcd, sI, sI0, sAdd, sCmp, sLen, sAbs, sInt, sTuple, sList, sNeg, sIsi, sIsN, D.isNon, D.ty,
  DL.lt', DL.le', DL.gt', DL.ge', fSl, fPart, fNo, List.map_cons, List.map_nil, List.length_cons, List.length_nil, List.append_nil, List.nil_append, List.cons_append, List.getElem?_cons_zero, List.getElem?_cons_succ, List.set_cons_zero, List.set_cons_succ, List.replicate_succ, List.replicate_zero, List.filterMap_cons, List.filterMap_nil, Nat.zero_add, Nat.reduceAdd, if_true, if_false, Bool.false_eq_true, need_t1 _ _ P T h, LN1]
theorem hermite_eq {a b e f : Int} (P : Par a b) (T : Par e f) : fn_hermite_verdict [pr a b, pr e f] q x = q (vHermite a) := by
  rw [fn_hermite_verdict_eq]; unfold g_hermite_verdict vHermite
  simp [fSeq, fIfS, fRet, fRetN, fDrop, fAsg, fName, fGtup, fGcons, fGnil, fVar, fK, f1, f2, fNil, fCons, fTup, fLst, fCall, fCallG, fCallK, fTest, gNot, gAnd, gOr, hAnd, hOr, hNot, fIf, fPar2, fPar3, fSkip, fNever, fBrk, fCnt, fItT, fItL, fFor, forL, startD, entry, pick, sIx, sSub, sMul, sDiv, sMod, sPow, sMax2, sMin2, sGcd, sI, sI0, sAdd, sCmp, sLen, sAbs, sInt, sTuple, sList, sNeg, sIsi, sIsN, D.isNon, D.ty,
  DL.lt', DL.le', DL.gt', DL.ge', fSl, fPart, fNo, List.map_cons, List.map_nil, List.length_cons, List.length_nil, List.append_nil, List.nil_append, List.cons_append, List.getElem?_cons_zero, List.getElem?_cons_succ, List.set_cons_zero, List.set_cons_succ, List.replicate_succ, List.replicate_zero, List.filterMap_cons, List.filterMap_nil, Nat.zero_add, Nat.reduceAdd, if_true, if_false, Bool.false_eq_true, need2 _ _ P T, LN2, is_zero_pr]
  by_cases h : a = 0 <;> simp [h]
theorem bessel_eq {a b c d e f : Int} (P : Par a b) (R : Par c d) (T : Par e f) (h : e ≠ 0) : fn_bessel_verdict [pr a b, pr c d, pr e f] q x = q (vBessel a) := by
  rw [fn_bessel_verdict_eq]; unfold g_bessel_verdict vBessel
  simp [fSeq, fIfS, fRet, fRetN, fDrop, fAsg, fName, fGtup, fGcons, fGnil, fVar, fK, f1, f2, fNil, fCons, fTup, fLst, fCall, fCallG, fCallK, fTest, gNot, gAnd, gOr, hAnd, hOr, hNot, fIf, fPar2, fPar3, fSkip, fNever, fBrk, fCnt, fItT, fItL, fFor, forL, startD, entry, pick, sIx, sSub, sMul, sDiv, sMod, sPow, sMax2, sMin2, sGcd, sI, sI0, sAdd, sCmp, sLen, sAbs, sInt, sTuple, sList, sNeg, sIsi, sIsN, D.isNon, D.ty,
  DL.lt', DL.le', DL.gt', DL.ge', fSl, fPart, fNo, List.map_cons, List.map_nil, List.length_cons, List.length_nil, List.append_nil, List.nil_append, List.cons_append, List.getElem?_cons_zero, List.getElem?_cons_succ, List.set_cons_zero, List.set_cons_succ, List.replicate_succ, List.replicate_zero, List.filterMap_cons, List.filterMap_nil, Nat.zero_add, Nat.reduceAdd, if_true, if_false, Bool.false_eq_true, need_t2 _ _ P R T h, LN2, is_zero_pr]
  by_cases h2 : a = 0 <;> simp [h2]
theorem laguerre_eq {a b c d : Int} (P : Par a b) (R : Par c d) : fn_laguerre_verdict [pr a b, pr c d] q x = q (vBessel a) := by
  rw [fn_laguerre_verdict_eq]; unfold g_laguerre_verdict vBessel
  simp [fSeq, fIfS, fRet, fRetN, fDrop, fAsg, fName, fGtup, fGcons, fGnil, fVar, fK, f1, f2, fNil, fCons, fTup, fLst, fCall, fCallG, fCallK, fTest, gNot, gAnd, gOr, hAnd, hOr, hNot, fIf, fPar2, fPar3, fSkip, fNever, fBrk, fCnt, fItT, fItL, fFor, forL, startD, entry, pick, sIx, sSub, sMul, sDiv, sMod, sPow, sMax2, sMin2, sGcd, sI, sI0, sAdd, sCmp, sLen, sAbs, sInt, sTuple, sList, sNeg, sIsi, sIsN, D.isNon, D.ty,
  DL.lt', DL.le', DL.gt', DL.ge', fSl, fPart, fNo, List.map_cons, List.map_nil, List.length_cons, List.length_nil, List.append_nil, List.nil_append, List.cons_append, List.getElem?_cons_zero, List.getElem?_cons_succ, List.set_cons_zero, List.set_cons_succ, List.replicate_succ, List.replicate_zero, List.filterMap_cons, List.filterMap_nil, Nat.zero_add, Nat.reduceAdd, if_true, if_false, Bool.false_eq_true, need2 _ _ P R, LN2, is_zero_pr]
  by_cases h2 : a = 0 <;> simp [h2]
theorem charlier_eq {a b e f : Int} (P : Par a b) (T : Par e f) (h : e ≠ 0) : fn_charlier_verdict [pr a b, pr e f] q x = q (vCharlier b) := by
  rw [fn_charlier_verdict_eq]; unfold g_charlier_verdict vCharlier
  simp [fSeq, fIfS, fRet, fRetN, fDrop, fAsg, fName, fGtup, fGcons, fGnil, fVar, fK, f1, f2, fNil, fCons, fTup, fLst, fCall, fCallG, fCallK, fTest, gNot, gAnd, gOr, hAnd, hOr, hNot, fIf, fPar2, fPar3, fSkip, fNever, fBrk, fCnt, fItT, fItL, fFor, forL, startD, entry, pick, sIx, sSub, sMul, sDiv, sMod, sPow, sMax2, sMin2, sGcd, sI, sI0, sAdd, sCmp, sLen, sAbs, sInt, sTuple, sList, sNeg, sIsi, sIsN, D.isNon, D.ty,
  DL.lt', DL.le', DL.gt', DL.ge', fSl, fPart, fNo, List.map_cons, List.map_nil, List.length_cons, List.length_nil, List.append_nil, List.nil_append, List.cons_append, List.getElem?_cons_zero, List.getElem?_cons_succ, List.set_cons_zero, List.set_cons_succ, List.replicate_succ, List.replicate_zero, List.filterMap_cons, List.filterMap_nil, Nat.zero_add, Nat.reduceAdd, if_true, if_false, Bool.false_eq_true, need_t1 _ _ P T h, LN1, is_int_par _ _ P]
  by_cases h2 : b = 1 <;> simp [h2]
theorem in2 (a b : Int) : sIn false (pr a b) (.tup [pr 1 1, pr (-1) 1]) q x = q (.bl (decide ((a = 1 ∧ b = 1) ∨ (a = -1 ∧ b = 1)))) := by
  unfold sIn
  have e1 : (1 = a ∧ 1 = b) ↔ (a = 1 ∧ b = 1) := by constructor <;> (rintro ⟨rfl, rfl⟩; exact ⟨rfl, rfl⟩)
  have e2 : (-1 = a ∧ 1 = b) ↔ (a = -1 ∧ b = 1) := by constructor <;> (rintro ⟨rfl, rfl⟩; exact ⟨rfl, rfl⟩)
  simp only [ok_pr, oks_prs, List.any_cons, List.any_nil, eqD_pr, Bool.or_false, Bool.false_xor, ← Bool.decide_or, e1, e2]
  simp [D.dep, D.deps]
theorem gegen_eq {a b c d : Int} (P : Par a b) (R : Par c d) : fn_gegenbauer_verdict [pr a b, pr c d] q x = q (vGegen a b d) := by
  rw [fn_gegenbauer_verdict_eq]; unfold g_gegenbauer_verdict vGegen
  simp [fSeq, fIfS, fRet, fRetN, fDrop, fAsg, fName, fGtup, fGcons, fGnil, fVar, fK, f1, f2, fNil, fCons, fTup, fLst, fCall, fCallG, fCallK, fTest, gNot, gAnd, gOr, hAnd, hOr, hNot, fIf, fPar2, fPar3, fSkip, fNever, fBrk, fCnt, fItT, fItL, fFor, forL, startD, entry, pick, sIx, sSub, sMul, sDiv, sMod, sPow, sMax2, sMin2, sGcd, sI, sI0, sAdd, sCmp, sLen, sAbs, sInt, sTuple, sList, sNeg, sIsi, sIsN, D.isNon, D.ty,
  DL.lt', DL.le', DL.gt', DL.ge', fSl, fPart, fNo, List.map_cons, List.map_nil, List.length_cons, List.length_nil, List.append_nil, List.nil_append, List.cons_append, List.getElem?_cons_zero, List.getElem?_cons_succ, List.set_cons_zero, List.set_cons_succ, List.replicate_succ, List.replicate_zero, List.filterMap_cons, List.filterMap_nil, Nat.zero_add, Nat.reduceAdd, if_true, if_false, Bool.false_eq_true, need2 _ _ P R, LN2, is_zero_pr, is_int_par _ _ R, in2]
  by_cases h : d = 1 <;> by_cases h2 : (a = 1 ∧ b = 1) ∨ (a = -1 ∧ b = 1) <;> by_cases h3 : a = 0 <;> simp [h, h2, h3]
end
section
variable (q : D → Prop) (x : XD)
theorem eq_pr (a b c d : Int) : sEq false (pr a b) (pr c d) q x = q (.bl (decide (a = c ∧ b = d))) := by
  unfold sEq
  simp only [ok_pr, eqD_pr, Bool.false_xor]
  simp [D.dep, D.deps]
theorem meixner_eq {a b c d e f : Int} (P : Par a b) (R : Par c d) (T : Par e f) (h : e ≠ 0) : fn_meixner_verdict [pr a b, pr c d, pr e f] q x = q (vMeixner a b c d e f) := by
  have hb := P.b1
  have hd := R.b1
  have hbd : b * d ≠ 0 := by have := Int.mul_pos (show 0 < b by omega) (show 0 < d by omega); omega
  rw [fn_meixner_verdict_eq]; unfold g_meixner_verdict vMeixner
  simp [fSeq, fIfS, fRet, fRetN, fDrop, fAsg, fName, fGtup, fGcons, fGnil, fVar, fK, f1, f2, fNil, fCons, fTup, fLst, fCall, fCallG, fCallK, fTest, gNot, gAnd, gOr, hAnd, hOr, hNot, fIf, fPar2, fPar3, fSkip, fNever, fBrk, fCnt, fItT, fItL, fFor, forL, startD, entry, pick, sIx, sSub, sMul, sDiv, sMod, sPow, sMax2, sMin2, sGcd, sI, sI0, sAdd, sCmp, sLen, sAbs, sInt, sTuple, sList, sNeg, sIsi, sIsN, D.isNon, D.ty,
  DL.lt', DL.le', DL.gt', DL.ge', fSl, fPart, fNo, List.map_cons, List.map_nil, List.length_cons, List.length_nil, List.append_nil, List.nil_append, List.cons_append, List.getElem?_cons_zero, List.getElem?_cons_succ, List.set_cons_zero, List.set_cons_succ, List.replicate_succ, List.replicate_zero, List.filterMap_cons, List.filterMap_nil, Nat.zero_add, Nat.reduceAdd, if_true, if_false, Bool.false_eq_true, need_t2 _ _ P R T h, LN1, LN2, whole_eq, is_int_par _ _ P, total2 _ _ P R, total3 _ _ P R, is_int_pr _ _ hbd, eq_pr]
  by_cases h1 : e = 1 ∧ f = 1 <;> by_cases h2 : b = 1 <;> by_cases h3 : (a * d + c * b).fmod (b * d) = 0 <;> by_cases h4 : e = -1 ∧ f = 1 <;> by_cases h5 : (2 * a * d + c * b).fmod (b * d) = 0 <;> simp [h1, h2, h3, h4, h5]
theorem is_whole2 {a b c d : Int} (P : Par a b) (R : Par c d) : fn__law_is_whole [.lst [pr a b, pr c d]] q x = q (.bl (decide ((a * d + c * b).fmod (b * d) = 0))) := by
  have := P.lo; have := P.hi; have hb := P.b1; have := P.b12
  have := R.lo; have := R.hi; have hd := R.b1; have := R.b12
  have hbd : b * d ≠ 0 := by have := Int.mul_pos (show 0 < b by omega) (show 0 < d by omega); omega
  have m1 := mulOk_l (a := a) (b := d) (by omega) (by omega)
  have m2 := mulOk_l (a := c) (b := b) (by omega) (by omega)
  have m3 := mulOk_l (a := b) (b := d) (by omega) (by omega)
  have m4 : ∀ z, IntMulOk 1 z := fun z => mulOk_l (by omega) (by omega)
  have m5 : ∀ z, IntMulOk 0 z := fun z => mulOk_l (by omega) (by omega)
  have m6 : ∀ z, IntMulOk z 1 := fun z => mulOk_r (by omega) (by omega)
  rw [fn__law_is_whole_eq]; unfold g__law_is_whole
  simp [fSeq, fIfS, fRet, fRetN, fDrop, fAsg, fName, fGtup, fGcons, fGnil, fVar, fK, f1, f2, fNil, fCons, fTup, fLst, fCall, fCallG, fCallK, fTest, gNot, gAnd, gOr, hAnd, hOr, hNot, fIf, fPar2, fPar3, fSkip, fNever, fBrk, fCnt, fItT, fItL, fFor, forL, startD, entry, pick, sIx, sSub, sMul, sDiv, sMod, sPow, sMax2, sMin2, sGcd, sI, sI0, sAdd, sCmp, sLen, sAbs, sInt, sTuple, sList, sNeg, sIsi, sIsN, D.isNon, D.ty,
  DL.lt', DL.le', DL.gt', DL.ge', fSl, fPart, fNo, List.map_cons, List.map_nil, List.length_cons, List.length_nil, List.append_nil, List.nil_append, List.cons_append, List.getElem?_cons_zero, List.getElem?_cons_succ, List.set_cons_zero, List.set_cons_succ, List.replicate_succ, List.replicate_zero, List.filterMap_cons, List.filterMap_nil, Nat.zero_add, Nat.reduceAdd, if_true, if_false, Bool.false_eq_true, LN2, m1, m2, m3, m4, m5, m6, sEq]
  omega
theorem is_whole3 {a b c d : Int} (P : Par a b) (R : Par c d) : fn__law_is_whole [.lst [pr a b, pr a b, pr c d]] q x = q (.bl (decide ((2 * a * d + c * b).fmod (b * d) = 0))) := by
  have := P.lo; have := P.hi; have hb := P.b1; have := P.b12
  have := R.lo; have := R.hi; have hd := R.b1; have := R.b12
  have hbd : 0 < b * d := Int.mul_pos (show 0 < b by omega) (show 0 < d by omega)
  have hbbd : 0 < b * b * d := by rw [Int.mul_assoc]; exact Int.mul_pos (show 0 < b by omega) hbd
  have m0 := mulOk_l (a := a) (b := b) (by omega) (by omega)
  have m1 := mulOk_r (a := a * b + a * b) (b := d) (by omega) (by omega)
  have m2 := mulOk_l (a := c) (b := b * b) (by omega) (by omega)
  have m3 := mulOk_r (a := b * b) (b := d) (by omega) (by omega)
  have m7 := mulOk_l (a := b) (b := b) (by omega) (by omega)
  have m4 : ∀ z, IntMulOk 1 z := fun z => mulOk_l (by omega) (by omega)
  have m5 : ∀ z, IntMulOk 0 z := fun z => mulOk_l (by omega) (by omega)
  have m6 : ∀ z, IntMulOk z 1 := fun z => mulOk_r (by omega) (by omega)
  have e1 : (a * b + a * b) * d + c * (b * b) = b * (2 * a * d + c * b) := by
    rw [Int.mul_add, Int.add_mul]
    have h1 : b * (2 * a * d) = a * b * d + a * b * d := by
      rw [Int.mul_assoc 2 a d, Int.mul_left_comm b 2, ← Int.mul_assoc b a d, Int.mul_comm b a]; omega
    have h2 : b * (c * b) = c * (b * b) := Int.mul_left_comm b c b
    rw [h1, h2]
  have e2 : ((a * b + a * b) * d + c * (b * b)).fmod (b * b * d) = 0 ↔ (2 * a * d + c * b).fmod (b * d) = 0 := by
    rw [fmod_zero_iff hbbd, fmod_zero_iff hbd, e1, Int.mul_assoc]
    exact Int.mul_dvd_mul_iff_left (by omega)
  rw [fn__law_is_whole_eq]; unfold g__law_is_whole
  simp [fSeq, fIfS, fRet, fRetN, fDrop, fAsg, fName, fGtup, fGcons, fGnil, fVar, fK, f1, f2, fNil, fCons, fTup, fLst, fCall, fCallG, fCallK, fTest, gNot, gAnd, gOr, hAnd, hOr, hNot, fIf, fPar2, fPar3, fSkip, fNever, fBrk, fCnt, fItT, fItL, fFor, forL, startD, entry, pick, sIx, sSub, sMul, sDiv, sMod, sPow, sMax2, sMin2, sGcd, sI, sI0, sAdd, sCmp, sLen, sAbs, sInt, sTuple, sList, sNeg, sIsi, sIsN, D.isNon, D.ty,
  DL.lt', DL.le', DL.gt', DL.ge', fSl, fPart, fNo, List.map_cons, List.map_nil, List.length_cons, List.length_nil, List.append_nil, List.nil_append, List.cons_append, List.getElem?_cons_zero, List.getElem?_cons_succ, List.set_cons_zero, List.set_cons_succ, List.replicate_succ, List.replicate_zero, List.filterMap_cons, List.filterMap_nil, Nat.zero_add, Nat.reduceAdd, if_true, if_false, Bool.false_eq_true, LN3, LN2, m0, m1, m2, m3, m4, m5, m6, m7, sEq, e2]
  omega
end
end K54

namespace K54
open PySem PySem.Spec PyProof.Rows L2 DL
section
variable (q : D → Prop) (x : XD)
theorem gcd_step {u v : Int} (hu : 0 ≤ u) (hv : 0 < v) : gcdI v (u.fmod v) = gcdI u v := by
  obtain ⟨m, rfl⟩ := Int.eq_ofNat_of_zero_le hu
  obtain ⟨n, rfl⟩ := Int.eq_ofNat_of_zero_le (show 0 ≤ v by omega)
  rw [Int.fmod_eq_emod_of_nonneg _ (by omega), ← Int.natCast_emod]
  show ((Nat.gcd n (m % n) : Nat) : Int) = ((Nat.gcd m n : Nat) : Int)
  rw [Nat.gcd_comm m n, Nat.gcd_rec n m, Nat.gcd_comm]
theorem le_mul1 {s g : Int} (h : 1 ≤ g) (hs : 0 ≤ s) : s ≤ g * s := by
  have := Int.mul_le_mul_of_nonneg_right h hs
  omega
theorem abs_mul1 {s g : Int} (h : 1 ≤ g) : absI s ≤ absI (g * s) := by
  rcases Int.le_total 0 s with hs | hs
  · have := le_mul1 h hs
    unfold absI
    split <;> split <;> omega
  · have := le_mul1 (s := -s) h (by omega)
    rw [Int.mul_neg] at this
    unfold absI
    split <;> split <;> omega
theorem gcd_zero {u : Int} (hu : 0 ≤ u) : gcdI u 0 = u := by
  rw [gcdI_eq, Int.gcd_zero_right]; omega
theorem gcd_abs (a b : Int) : gcdI (absI a) (absI b) = gcdI a b := by
  have h : ∀ i : Int, (absI i).natAbs = i.natAbs := fun i => by unfold absI; split <;> omega
  unfold gcdI
  rw [h, h]
theorem absI_nn (i : Int) : 0 ≤ absI i := by unfold absI; split <;> omega
theorem absI_neg (i : Int) : absI (-i) = absI i := by unfold absI; split <;> split <;> omega
theorem common {a b : Int} (hb : absI b ≤ 2000) (h : q (.int (gcdI a b))) : fn__law_common [.int a, .int b] q x := by
  have key : forL (fName 2) (fSeq (fIfS (fTest (f2 (sEq false) (fVar 1) (fK (.int 0)))) (fRet (fVar 0)) fSkip) (fPar2 0 1 (fCons (fVar 1) (fCons (f2 sMod (f1 sInt (fVar 0)) (fVar 1)) fNil))))
      { (entry false q x) with nx := fun ρ' => fRet (fVar 0) ρ' (entry false q x) } (rangeD 0 2000) [some (.int (absI a)), some (.int (absI b)), none] := by
    refine forL_inv (fun l ρ => ∃ u v o, ρ = [some (.int u), some (.int v), o] ∧ 0 ≤ u ∧ 0 ≤ v ∧ v ≤ l.length ∧ gcdI u v = gcdI a b) ?_ ?_ _ _ ⟨_, _, _, rfl, absI_nn a, absI_nn b, by rw [rangeD_len]; exact hb, gcd_abs a b⟩
    · rintro ρ ⟨u, v, o, rfl, hu, hv, hl, hg⟩
      have hv0 : v = 0 := by simp at hl; omega
      subst hv0
      rw [gcd_zero hu] at hg
      show q (.int u)
      rw [hg]; exact h
    · rintro a' r ρ ⟨u, v, o, rfl, hu, hv, hl, hg⟩ nx hn
      rw [List.length_cons] at hl
      by_cases h0 : v = 0
      · subst h0
        rw [gcd_zero hu] at hg
        simp [fSeq, fIfS, fRet, fRetN, fDrop, fAsg, fName, fGtup, fGcons, fGnil, fVar, fK, f1, f2, fNil, fCons, fTup, fLst, fCall, fCallG, fCallK, fTest, gNot, gAnd, gOr, hAnd, hOr, hNot, fIf, fPar2, fPar3, fSkip, fNever, fBrk, fCnt, fItT, fItL, fFor, forL, startD, entry, pick, sIx, sSub, sMul, sDiv, sMod, sPow, sMax2, sMin2, sGcd, sI, sI0, sAdd, sCmp, sLen, sAbs, sInt, sTuple, sList, sNeg, sIsi, sIsN, D.isNon, D.ty,
  DL.lt', DL.le', DL.gt', DL.ge', fSl, fPart, fNo, List.map_cons, List.map_nil, List.length_cons, List.length_nil, List.append_nil, List.nil_append, List.cons_append, List.getElem?_cons_zero, List.getElem?_cons_succ, List.set_cons_zero, List.set_cons_succ, List.replicate_succ, List.replicate_zero, List.filterMap_cons, List.filterMap_nil, Nat.zero_add, Nat.reduceAdd, if_true, if_false, Bool.false_eq_true, sEq]
        rw [hg]; exact h
      · have hv1 : 0 < v := by omega
        have h1 := Int.fmod_nonneg_of_pos u hv1
        have h2 := Int.fmod_lt_of_pos u hv1
        simp [fSeq, fIfS, fRet, fRetN, fDrop, fAsg, fName, fGtup, fGcons, fGnil, fVar, fK, f1, f2, fNil, fCons, fTup, fLst, fCall, fCallG, fCallK, fTest, gNot, gAnd, gOr, hAnd, hOr, hNot, fIf, fPar2, fPar3, fSkip, fNever, fBrk, fCnt, fItT, fItL, fFor, forL, startD, entry, pick, sIx, sSub, sMul, sDiv, sMod, sPow, sMax2, sMin2, sGcd, sI, sI0, sAdd, sCmp, sLen, sAbs, sInt, sTuple, sList, sNeg, sIsi, sIsN, D.isNon, D.ty,
  DL.lt', DL.le', DL.gt', DL.ge', fSl, fPart, fNo, List.map_cons, List.map_nil, List.length_cons, List.length_nil, List.append_nil, List.nil_append, List.cons_append, List.getElem?_cons_zero, List.getElem?_cons_succ, List.set_cons_zero, List.set_cons_succ, List.replicate_succ, List.replicate_zero, List.filterMap_cons, List.filterMap_nil, Nat.zero_add, Nat.reduceAdd, if_true, if_false, Bool.false_eq_true, sEq, h0]
        exact hn _ ⟨v, _, _, rfl, hv, h1, by omega, by rw [gcd_step hu hv1]; exact hg⟩
  rw [fn__law_common_eq]; unfold g__law_common
  refine ⟨rfl, (show (0 : Nat) < 3 by decide), (show (1 : Nat) < 3 by decide), (by decide : (-(2 ^ 62) : Int) ≤ 2000), (by decide : (2000 : Int) < 2 ^ 62), key⟩
theorem law_pair {u v : Int} (hv : v ≠ 0) (hb : absI v ≤ 2000) (h : ∀ a b : Int, 1 ≤ b → gcdI a b = 1 → a * v = u * b → absI a ≤ absI u → b ≤ absI v → q (pr a b)) : fn__law_pair [.int u, .int v] q x := by
  have key : ∀ u v : Int, 0 < v → v ≤ 2000 → (∀ a b : Int, 1 ≤ b → gcdI a b = 1 → a * v = u * b → absI a ≤ absI u → b ≤ v → q (pr a b)) → fn__law_common [.int u, .int v] (fun d => 2 < 3 ∧ (fRet (fTup (fCons (f2 sDiv (fVar 0) (fVar 2)) (fCons (f2 sDiv (fVar 1) (fVar 2)) fNil)))) [some (.int u), some (.int v), some d] (entry false q x)) x := by
    intro u v hv hb h
    refine common _ x (by unfold absI; split <;> omega) ⟨by decide, ?_⟩
    have hg := gcdI_pos (a := u) (b := v) (by omega)
    obtain ⟨s, hs⟩ := gcdI_dvd_l u v
    obtain ⟨t, ht⟩ := gcdI_dvd_r u v
    have hgl : gcdI u v ≤ v := Int.le_of_dvd hv (gcdI_dvd_r u v)
    generalize hgg : gcdI u v = g at *
    have e1 : u.fdiv g = s := by rw [hs, Int.mul_fdiv_cancel_left _ (by omega)]
    have e2 : v.fdiv g = t := by rw [ht, Int.mul_fdiv_cancel_left _ (by omega)]
    have d1 := divOk_s (a := u) (b := g) (by omega) (by omega) (by omega)
    have d2 := divOk_s (a := v) (b := g) (by omega) (by omega) (by omega)
    simp [fSeq, fIfS, fRet, fRetN, fDrop, fAsg, fName, fGtup, fGcons, fGnil, fVar, fK, f1, f2, fNil, fCons, fTup, fLst, fCall, fCallG, fCallK, fTest, gNot, gAnd, gOr, hAnd, hOr, hNot, fIf, fPar2, fPar3, fSkip, fNever, fBrk, fCnt, fItT, fItL, fFor, forL, startD, entry, pick, sIx, sSub, sMul, sDiv, sMod, sPow, sMax2, sMin2, sGcd, sI, sI0, sAdd, sCmp, sLen, sAbs, sInt, sTuple, sList, sNeg, sIsi, sIsN, D.isNon, D.ty,
  DL.lt', DL.le', DL.gt', DL.ge', fSl, fPart, fNo, List.map_cons, List.map_nil, List.length_cons, List.length_nil, List.append_nil, List.nil_append, List.cons_append, List.getElem?_cons_zero, List.getElem?_cons_succ, List.set_cons_zero, List.set_cons_succ, List.replicate_succ, List.replicate_zero, List.filterMap_cons, List.filterMap_nil, Nat.zero_add, Nat.reduceAdd, if_true, if_false, Bool.false_eq_true, d1, d2, e1, e2]
    have ht1 : 1 ≤ t := by
      rcases Int.lt_or_le 0 t with h | h
      · omega
      · have : g * t ≤ 0 := Int.mul_nonpos_of_nonneg_of_nonpos (by omega) h
        omega
    refine ⟨by decide, h s t ht1 ?_ ?_ ?_ ?_⟩
    · have : gcdI u v = g * gcdI s t := by
        rw [hs, ht, gcdI_eq, gcdI_eq, Int.gcd_mul_left]
        have : (g.natAbs : Int) = g := by omega
        rw [Int.natCast_mul, this]
      rw [hgg] at this
      have : g * gcdI s t = g * 1 := by omega
      exact Int.eq_of_mul_eq_mul_left (by omega) this
    · rw [hs, ht]
      simp only [Int.mul_comm, Int.mul_left_comm]
    · rw [hs]; exact abs_mul1 (by omega)
    · rw [ht]; exact le_mul1 (by omega) (by omega)
  rw [fn__law_pair_eq]; unfold g__law_pair
  refine ⟨rfl, ?_⟩
  by_cases hn : v < 0
  · have k := key (-u) (-v) (by omega) (by unfold absI at hb; split at hb <;> omega) fun a b h1 h2 h3 h4 h5 => h a b h1 h2 (by rw [Int.mul_neg, Int.neg_mul] at h3; omega) (by rw [absI_neg] at h4; exact h4) (by unfold absI; split <;> omega)
    simp only [fSeq, fIfS, fRet, fRetN, fDrop, fAsg, fName, fGtup, fGcons, fGnil, fVar, fK, f1, f2, fNil, fCons, fTup, fLst, fCall, fCallG, fCallK, fTest, gNot, gAnd, gOr, hAnd, hOr, hNot, fIf, fPar2, fPar3, fSkip, fNever, fBrk, fCnt, fItT, fItL, fFor, forL, startD, entry, pick, sIx, sSub, sMul, sDiv, sMod, sPow, sMax2, sMin2, sGcd, sI, sI0, sAdd, sCmp, sLen, sAbs, sInt, sTuple, sList, sNeg, sIsi, sIsN, D.isNon, D.ty,
  DL.lt', DL.le', DL.gt', DL.ge', fSl, fPart, fNo, List.map_cons, List.map_nil, List.length_cons, List.length_nil, List.append_nil, List.nil_append, List.cons_append, List.getElem?_cons_zero, List.getElem?_cons_succ, List.set_cons_zero, List.set_cons_succ, List.replicate_succ, List.replicate_zero, List.filterMap_cons, List.filterMap_nil, Nat.zero_add, Nat.reduceAdd, if_true, if_false, Bool.false_eq_true, hn, decide_true] at k ⊢
    exact ⟨by decide, by decide, k⟩
  · have k := key u v (by omega) (by unfold absI at hb; split at hb <;> omega) fun a b h1 h2 h3 h4 h5 => h a b h1 h2 h3 h4 (by unfold absI; split <;> omega)
    simp only [fSeq, fIfS, fRet, fRetN, fDrop, fAsg, fName, fGtup, fGcons, fGnil, fVar, fK, f1, f2, fNil, fCons, fTup, fLst, fCall, fCallG, fCallK, fTest, gNot, gAnd, gOr, hAnd, hOr, hNot, fIf, fPar2, fPar3, fSkip, fNever, fBrk, fCnt, fItT, fItL, fFor, forL, startD, entry, pick, sIx, sSub, sMul, sDiv, sMod, sPow, sMax2, sMin2, sGcd, sI, sI0, sAdd, sCmp, sLen, sAbs, sInt, sTuple, sList, sNeg, sIsi, sIsN, D.isNon, D.ty,
  DL.lt', DL.le', DL.gt', DL.ge', fSl, fPart, fNo, List.map_cons, List.map_nil, List.length_cons, List.length_nil, List.append_nil, List.nil_append, List.cons_append, List.getElem?_cons_zero, List.getElem?_cons_succ, List.set_cons_zero, List.set_cons_succ, List.replicate_succ, List.replicate_zero, List.filterMap_cons, List.filterMap_nil, Nat.zero_add, Nat.reduceAdd, if_true, if_false, Bool.false_eq_true, hn, decide_false] at k ⊢
    exact k
end
end K54

namespace K54
open PySem PySem.Spec PyProof.Rows L2 DL
section
variable (q : D → Prop) (x : XD)
theorem in_words (w : Str) (h : (D.str w).ok = true) : sIn false (.str w) (.tup [.str "bessel", .str "laguerre"]) q x = q (.bl (decide (w = "bessel" ∨ w = "laguerre"))) := by
  have e1 : ("bessel" = w) = (w = "bessel") := propext ⟨Eq.symm, Eq.symm⟩
  have e2 : ("laguerre" = w) = (w = "laguerre") := propext ⟨Eq.symm, Eq.symm⟩
  have e3 : D.oks [.str "bessel", .str "laguerre"] = true := by decide +kernel
  unfold sIn
  simp only [h, e3, List.any_cons, List.any_nil, eqD_str, Bool.or_false, Bool.false_xor, ← Bool.decide_or, e1, e2]
  simp [D.dep, D.deps]
theorem okw1 : (D.str "gegenbauer").ok = true := by decide +kernel
theorem okw2 : (D.str "charlier").ok = true := by decide +kernel
theorem okw3 : (D.str "meixner").ok = true := by decide +kernel
theorem okw4 : (D.str "bessel").ok = true := by decide +kernel
theorem okw5 : (D.str "laguerre").ok = true := by decide +kernel
theorem nv_steady (X Y : D) : fn__law_named_verdict [.str "steady", .tup [X, Y]] q x = q vF := by
  rw [fn__law_named_verdict_eq]; unfold g__law_named_verdict
  dsimp only [fSeq, fIfS, fRet, fRetN, fDrop, fAsg, fName, fGtup, fGcons, fGnil, fVar, fK, f1, f2, fNil, fCons, fTup, fLst, fCall, fCallG, fCallK, fTest, gNot, gAnd, gOr, hAnd, hOr, hNot, fIf, fPar2, fPar3, fSkip, fNever, fBrk, fCnt, fItT, fItL, fFor, forL, startD, entry, pick, sIx, sSub, sMul, sDiv, sMod, sPow, sMax2, sMin2, sGcd, sI, sI0, sAdd, sCmp, sLen, sAbs, sInt, sTuple, sList, sNeg, sIsi, sIsN, D.isNon, D.ty,
  DL.lt', DL.le', DL.gt', DL.ge', fSl, fPart, fNo, List.map_cons, List.map_nil, List.length_cons, List.length_nil, List.append_nil, List.nil_append, List.cons_append, List.getElem?_cons_zero, List.getElem?_cons_succ, List.set_cons_zero, List.set_cons_succ, List.replicate_succ, List.replicate_zero, List.filterMap_cons, List.filterMap_nil, Nat.zero_add, Nat.reduceAdd, if_true, if_false, Bool.false_eq_true]
  simp [sEq, atI, ixN]
theorem nv_hermite (a b : Int) (Y : D) : fn__law_named_verdict [.str "hermite", .tup [pr a b, Y]] q x = q (vHermite a) := by
  rw [fn__law_named_verdict_eq]; unfold g__law_named_verdict vHermite
  dsimp only [fSeq, fIfS, fRet, fRetN, fDrop, fAsg, fName, fGtup, fGcons, fGnil, fVar, fK, f1, f2, fNil, fCons, fTup, fLst, fCall, fCallG, fCallK, fTest, gNot, gAnd, gOr, hAnd, hOr, hNot, fIf, fPar2, fPar3, fSkip, fNever, fBrk, fCnt, fItT, fItL, fFor, forL, startD, entry, pick, sIx, sSub, sMul, sDiv, sMod, sPow, sMax2, sMin2, sGcd, sI, sI0, sAdd, sCmp, sLen, sAbs, sInt, sTuple, sList, sNeg, sIsi, sIsN, D.isNon, D.ty,
  DL.lt', DL.le', DL.gt', DL.ge', fSl, fPart, fNo, List.map_cons, List.map_nil, List.length_cons, List.length_nil, List.append_nil, List.nil_append, List.cons_append, List.getElem?_cons_zero, List.getElem?_cons_succ, List.set_cons_zero, List.set_cons_succ, List.replicate_succ, List.replicate_zero, List.filterMap_cons, List.filterMap_nil, Nat.zero_add, Nat.reduceAdd, if_true, if_false, Bool.false_eq_true]
  simp [sEq, atI, ixN, w_steady_hermite, w_steady_bessel, w_steady_laguerre, w_steady_gegenbauer, w_steady_charlier, w_steady_meixner, w_hermite_steady, w_hermite_bessel, w_hermite_laguerre, w_hermite_gegenbauer, w_hermite_charlier, w_hermite_meixner, w_bessel_steady, w_bessel_hermite, w_bessel_laguerre, w_bessel_gegenbauer, w_bessel_charlier, w_bessel_meixner, w_laguerre_steady, w_laguerre_hermite, w_laguerre_bessel, w_laguerre_gegenbauer, w_laguerre_charlier, w_laguerre_meixner, w_gegenbauer_steady, w_gegenbauer_hermite, w_gegenbauer_bessel, w_gegenbauer_laguerre, w_gegenbauer_charlier, w_gegenbauer_meixner, w_charlier_steady, w_charlier_hermite, w_charlier_bessel, w_charlier_laguerre, w_charlier_gegenbauer, w_charlier_meixner, w_meixner_steady, w_meixner_hermite, w_meixner_bessel, w_meixner_laguerre, w_meixner_gegenbauer, w_meixner_charlier]
  by_cases h : a = 0 <;> simp [h]
theorem nv_bessel (a b : Int) (Y Z : D) : fn__law_named_verdict [.str "bessel", .tup [pr a b, Y, Z]] q x = q (vBessel a) := by
  rw [fn__law_named_verdict_eq]; unfold g__law_named_verdict vBessel
  dsimp only [fSeq, fIfS, fRet, fRetN, fDrop, fAsg, fName, fGtup, fGcons, fGnil, fVar, fK, f1, f2, fNil, fCons, fTup, fLst, fCall, fCallG, fCallK, fTest, gNot, gAnd, gOr, hAnd, hOr, hNot, fIf, fPar2, fPar3, fSkip, fNever, fBrk, fCnt, fItT, fItL, fFor, forL, startD, entry, pick, sIx, sSub, sMul, sDiv, sMod, sPow, sMax2, sMin2, sGcd, sI, sI0, sAdd, sCmp, sLen, sAbs, sInt, sTuple, sList, sNeg, sIsi, sIsN, D.isNon, D.ty,
  DL.lt', DL.le', DL.gt', DL.ge', fSl, fPart, fNo, List.map_cons, List.map_nil, List.length_cons, List.length_nil, List.append_nil, List.nil_append, List.cons_append, List.getElem?_cons_zero, List.getElem?_cons_succ, List.set_cons_zero, List.set_cons_succ, List.replicate_succ, List.replicate_zero, List.filterMap_cons, List.filterMap_nil, Nat.zero_add, Nat.reduceAdd, if_true, if_false, Bool.false_eq_true]
  simp [sEq, atI, ixN, w_steady_hermite, w_steady_bessel, w_steady_laguerre, w_steady_gegenbauer, w_steady_charlier, w_steady_meixner, w_hermite_steady, w_hermite_bessel, w_hermite_laguerre, w_hermite_gegenbauer, w_hermite_charlier, w_hermite_meixner, w_bessel_steady, w_bessel_hermite, w_bessel_laguerre, w_bessel_gegenbauer, w_bessel_charlier, w_bessel_meixner, w_laguerre_steady, w_laguerre_hermite, w_laguerre_bessel, w_laguerre_gegenbauer, w_laguerre_charlier, w_laguerre_meixner, w_gegenbauer_steady, w_gegenbauer_hermite, w_gegenbauer_bessel, w_gegenbauer_laguerre, w_gegenbauer_charlier, w_gegenbauer_meixner, w_charlier_steady, w_charlier_hermite, w_charlier_bessel, w_charlier_laguerre, w_charlier_gegenbauer, w_charlier_meixner, w_meixner_steady, w_meixner_hermite, w_meixner_bessel, w_meixner_laguerre, w_meixner_gegenbauer, w_meixner_charlier, in_words _ _ _ okw4, LN2]
  by_cases h : a = 0 <;> simp [h]
theorem nv_laguerre (a b : Int) (Y : D) : fn__law_named_verdict [.str "laguerre", .tup [pr a b, Y]] q x = q (vBessel a) := by
  rw [fn__law_named_verdict_eq]; unfold g__law_named_verdict vBessel
  dsimp only [fSeq, fIfS, fRet, fRetN, fDrop, fAsg, fName, fGtup, fGcons, fGnil, fVar, fK, f1, f2, fNil, fCons, fTup, fLst, fCall, fCallG, fCallK, fTest, gNot, gAnd, gOr, hAnd, hOr, hNot, fIf, fPar2, fPar3, fSkip, fNever, fBrk, fCnt, fItT, fItL, fFor, forL, startD, entry, pick, sIx, sSub, sMul, sDiv, sMod, sPow, sMax2, sMin2, sGcd, sI, sI0, sAdd, sCmp, sLen, sAbs, sInt, sTuple, sList, sNeg, sIsi, sIsN, D.isNon, D.ty,
  DL.lt', DL.le', DL.gt', DL.ge', fSl, fPart, fNo, List.map_cons, List.map_nil, List.length_cons, List.length_nil, List.append_nil, List.nil_append, List.cons_append, List.getElem?_cons_zero, List.getElem?_cons_succ, List.set_cons_zero, List.set_cons_succ, List.replicate_succ, List.replicate_zero, List.filterMap_cons, List.filterMap_nil, Nat.zero_add, Nat.reduceAdd, if_true, if_false, Bool.false_eq_true]
  simp [sEq, atI, ixN, w_steady_hermite, w_steady_bessel, w_steady_laguerre, w_steady_gegenbauer, w_steady_charlier, w_steady_meixner, w_hermite_steady, w_hermite_bessel, w_hermite_laguerre, w_hermite_gegenbauer, w_hermite_charlier, w_hermite_meixner, w_bessel_steady, w_bessel_hermite, w_bessel_laguerre, w_bessel_gegenbauer, w_bessel_charlier, w_bessel_meixner, w_laguerre_steady, w_laguerre_hermite, w_laguerre_bessel, w_laguerre_gegenbauer, w_laguerre_charlier, w_laguerre_meixner, w_gegenbauer_steady, w_gegenbauer_hermite, w_gegenbauer_bessel, w_gegenbauer_laguerre, w_gegenbauer_charlier, w_gegenbauer_meixner, w_charlier_steady, w_charlier_hermite, w_charlier_bessel, w_charlier_laguerre, w_charlier_gegenbauer, w_charlier_meixner, w_meixner_steady, w_meixner_hermite, w_meixner_bessel, w_meixner_laguerre, w_meixner_gegenbauer, w_meixner_charlier, in_words _ _ _ okw5, LN2]
  by_cases h : a = 0 <;> simp [h]
theorem nv_gegen (a b c d : Int) : fn__law_named_verdict [.str "gegenbauer", .tup [pr a b, pr c d]] q x = q (vGegen a b d) := by
  rw [fn__law_named_verdict_eq]; unfold g__law_named_verdict vGegen
  dsimp only [fSeq, fIfS, fRet, fRetN, fDrop, fAsg, fName, fGtup, fGcons, fGnil, fVar, fK, f1, f2, fNil, fCons, fTup, fLst, fCall, fCallG, fCallK, fTest, gNot, gAnd, gOr, hAnd, hOr, hNot, fIf, fPar2, fPar3, fSkip, fNever, fBrk, fCnt, fItT, fItL, fFor, forL, startD, entry, pick, sIx, sSub, sMul, sDiv, sMod, sPow, sMax2, sMin2, sGcd, sI, sI0, sAdd, sCmp, sLen, sAbs, sInt, sTuple, sList, sNeg, sIsi, sIsN, D.isNon, D.ty,
  DL.lt', DL.le', DL.gt', DL.ge', fSl, fPart, fNo, List.map_cons, List.map_nil, List.length_cons, List.length_nil, List.append_nil, List.nil_append, List.cons_append, List.getElem?_cons_zero, List.getElem?_cons_succ, List.set_cons_zero, List.set_cons_succ, List.replicate_succ, List.replicate_zero, List.filterMap_cons, List.filterMap_nil, Nat.zero_add, Nat.reduceAdd, if_true, if_false, Bool.false_eq_true]
  simp [sEq, atI, ixN, w_steady_hermite, w_steady_bessel, w_steady_laguerre, w_steady_gegenbauer, w_steady_charlier, w_steady_meixner, w_hermite_steady, w_hermite_bessel, w_hermite_laguerre, w_hermite_gegenbauer, w_hermite_charlier, w_hermite_meixner, w_bessel_steady, w_bessel_hermite, w_bessel_laguerre, w_bessel_gegenbauer, w_bessel_charlier, w_bessel_meixner, w_laguerre_steady, w_laguerre_hermite, w_laguerre_bessel, w_laguerre_gegenbauer, w_laguerre_charlier, w_laguerre_meixner, w_gegenbauer_steady, w_gegenbauer_hermite, w_gegenbauer_bessel, w_gegenbauer_laguerre, w_gegenbauer_charlier, w_gegenbauer_meixner, w_charlier_steady, w_charlier_hermite, w_charlier_bessel, w_charlier_laguerre, w_charlier_gegenbauer, w_charlier_meixner, w_meixner_steady, w_meixner_hermite, w_meixner_bessel, w_meixner_laguerre, w_meixner_gegenbauer, w_meixner_charlier, in_words _ _ _ okw1, LN2, in2]
  by_cases h : d = 1 <;> by_cases h2 : (a = 1 ∧ b = 1) ∨ (a = -1 ∧ b = 1) <;> by_cases h3 : a = 0 <;> simp [h, h2, h3]
theorem nv_charlier (a b : Int) (Y : D) : fn__law_named_verdict [.str "charlier", .tup [pr a b, Y]] q x = q (vCharlier b) := by
  rw [fn__law_named_verdict_eq]; unfold g__law_named_verdict vCharlier
  dsimp only [fSeq, fIfS, fRet, fRetN, fDrop, fAsg, fName, fGtup, fGcons, fGnil, fVar, fK, f1, f2, fNil, fCons, fTup, fLst, fCall, fCallG, fCallK, fTest, gNot, gAnd, gOr, hAnd, hOr, hNot, fIf, fPar2, fPar3, fSkip, fNever, fBrk, fCnt, fItT, fItL, fFor, forL, startD, entry, pick, sIx, sSub, sMul, sDiv, sMod, sPow, sMax2, sMin2, sGcd, sI, sI0, sAdd, sCmp, sLen, sAbs, sInt, sTuple, sList, sNeg, sIsi, sIsN, D.isNon, D.ty,
  DL.lt', DL.le', DL.gt', DL.ge', fSl, fPart, fNo, List.map_cons, List.map_nil, List.length_cons, List.length_nil, List.append_nil, List.nil_append, List.cons_append, List.getElem?_cons_zero, List.getElem?_cons_succ, List.set_cons_zero, List.set_cons_succ, List.replicate_succ, List.replicate_zero, List.filterMap_cons, List.filterMap_nil, Nat.zero_add, Nat.reduceAdd, if_true, if_false, Bool.false_eq_true]
  simp [sEq, atI, ixN, w_steady_hermite, w_steady_bessel, w_steady_laguerre, w_steady_gegenbauer, w_steady_charlier, w_steady_meixner, w_hermite_steady, w_hermite_bessel, w_hermite_laguerre, w_hermite_gegenbauer, w_hermite_charlier, w_hermite_meixner, w_bessel_steady, w_bessel_hermite, w_bessel_laguerre, w_bessel_gegenbauer, w_bessel_charlier, w_bessel_meixner, w_laguerre_steady, w_laguerre_hermite, w_laguerre_bessel, w_laguerre_gegenbauer, w_laguerre_charlier, w_laguerre_meixner, w_gegenbauer_steady, w_gegenbauer_hermite, w_gegenbauer_bessel, w_gegenbauer_laguerre, w_gegenbauer_charlier, w_gegenbauer_meixner, w_charlier_steady, w_charlier_hermite, w_charlier_bessel, w_charlier_laguerre, w_charlier_gegenbauer, w_charlier_meixner, w_meixner_steady, w_meixner_hermite, w_meixner_bessel, w_meixner_laguerre, w_meixner_gegenbauer, w_meixner_charlier, in_words _ _ _ okw2, LN2]
  by_cases h : b = 1 <;> simp [h]
theorem nv_meixner {a b c d : Int} (e f : Int) (P : Par a b) (R : Par c d) : fn__law_named_verdict [.str "meixner", .tup [pr a b, pr c d, pr e f]] q x = q (vMeixner a b c d e f) := by
  rw [fn__law_named_verdict_eq]; unfold g__law_named_verdict vMeixner
  have e4 : ∀ q x, sEq false (pr e f) (pr 1 1) q x = q (.bl (decide (e = 1 ∧ f = 1))) := fun q x => eq_pr q x e f 1 1
  have e5 : ∀ q x, sEq false (pr e f) (pr (-1) 1) q x = q (.bl (decide (e = -1 ∧ f = 1))) := fun q x => eq_pr q x e f (-1) 1
  have e6 : ∀ (i j : Int) q x, sEq false (.int i) (.int j) q x = q (.bl (decide (i = j))) := fun i j q x => by simp [sEq]
  have e7 : ∀ (i j : Str) q x, sEq false (.str i) (.str j) q x = q (.bl (decide (i = j))) := fun i j q x => by simp [sEq]
  dsimp only [fSeq, fIfS, fRet, fRetN, fDrop, fAsg, fName, fGtup, fGcons, fGnil, fVar, fK, f1, f2, fNil, fCons, fTup, fLst, fCall, fCallG, fCallK, fTest, gNot, gAnd, gOr, hAnd, hOr, hNot, fIf, fPar2, fPar3, fSkip, fNever, fBrk, fCnt, fItT, fItL, fFor, forL, startD, entry, pick, sIx, sSub, sMul, sDiv, sMod, sPow, sMax2, sMin2, sGcd, sI, sI0, sAdd, sCmp, sLen, sAbs, sInt, sTuple, sList, sNeg, sIsi, sIsN, D.isNon, D.ty,
  DL.lt', DL.le', DL.gt', DL.ge', fSl, fPart, fNo, List.map_cons, List.map_nil, List.length_cons, List.length_nil, List.append_nil, List.nil_append, List.cons_append, List.getElem?_cons_zero, List.getElem?_cons_succ, List.set_cons_zero, List.set_cons_succ, List.replicate_succ, List.replicate_zero, List.filterMap_cons, List.filterMap_nil, Nat.zero_add, Nat.reduceAdd, if_true, if_false, Bool.false_eq_true]
  simp [e4, e5, e6, e7, atI, ixN, w_steady_hermite, w_steady_bessel, w_steady_laguerre, w_steady_gegenbauer, w_steady_charlier, w_steady_meixner, w_hermite_steady, w_hermite_bessel, w_hermite_laguerre, w_hermite_gegenbauer, w_hermite_charlier, w_hermite_meixner, w_bessel_steady, w_bessel_hermite, w_bessel_laguerre, w_bessel_gegenbauer, w_bessel_charlier, w_bessel_meixner, w_laguerre_steady, w_laguerre_hermite, w_laguerre_bessel, w_laguerre_gegenbauer, w_laguerre_charlier, w_laguerre_meixner, w_gegenbauer_steady, w_gegenbauer_hermite, w_gegenbauer_bessel, w_gegenbauer_laguerre, w_gegenbauer_charlier, w_gegenbauer_meixner, w_charlier_steady, w_charlier_hermite, w_charlier_bessel, w_charlier_laguerre, w_charlier_gegenbauer, w_charlier_meixner, w_meixner_steady, w_meixner_hermite, w_meixner_bessel, w_meixner_laguerre, w_meixner_gegenbauer, w_meixner_charlier, in_words _ _ _ okw3, LN1, LN2, LN3, is_whole2 _ _ P R, is_whole3 _ _ P R]
  by_cases h1 : e = 1 ∧ f = 1 <;> by_cases h2 : b = 1 <;> by_cases h3 : (a * d + c * b).fmod (b * d) = 0 <;> by_cases h4 : e = -1 ∧ f = 1 <;> by_cases h5 : (2 * a * d + c * b).fmod (b * d) = 0 <;> simp [h1, h2, h3, h4, h5]
end
end K54

namespace K54
open PySem PySem.Spec PyProof.Rows L2 DL
section
variable (q : D → Prop) (x : XD)
theorem pick_of {ds : List D} (h1 : 1 ≤ ds.length) (h2 : ds.length < 1073741824) (h : ∀ d ∈ ds, q d) : fn__law_pick [.lst ds] q x := by
  rw [fn__law_pick_eq]
  refine ⟨rfl, fun d => ?_⟩
  unfold g__law_pick
  dsimp only [fSeq, fIfS, fRet, fRetN, fDrop, fAsg, fName, fGtup, fGcons, fGnil, fVar, fK, f1, f2, fNil, fCons, fTup, fLst, fCall, fCallG, fCallK, fTest, gNot, gAnd, gOr, hAnd, hOr, hNot, fIf, fPar2, fPar3, fSkip, fNever, fBrk, fCnt, fItT, fItL, fFor, forL, startD, entry, pick, sIx, sSub, sMul, sDiv, sMod, sPow, sMax2, sMin2, sGcd, sI, sI0, sAdd, sCmp, sLen, sAbs, sInt, sTuple, sList, sNeg, sIsi, sIsN, D.isNon, D.ty,
  DL.lt', DL.le', DL.gt', DL.ge', fSl, fPart, fNo, List.map_cons, List.map_nil, List.length_cons, List.length_nil, List.append_nil, List.nil_append, List.cons_append, List.getElem?_cons_zero, List.getElem?_cons_succ, List.set_cons_zero, List.set_cons_succ, List.replicate_succ, List.replicate_zero, List.filterMap_cons, List.filterMap_nil, Nat.zero_add, Nat.reduceAdd, if_true, if_false, Bool.false_eq_true]
  refine ⟨rfl, ds.length, rfl, by omega, by omega, fun r h0 hr => ?_⟩
  obtain ⟨n, rfl⟩ := Int.eq_ofNat_of_zero_le h0
  have hn : n < ds.length := by omega
  have e : atI ds (n : Int) = some ds[n] := by
    unfold atI ixN
    rw [if_pos h0, if_pos hr]
    simp [hn]
  dsimp only
  rw [e]
  exact h _ (List.getElem_mem hn)
theorem parameter_of (nil : Bool) (h : ∀ a b, Par a b → (nil = true ∨ a ≠ 0) → q (pr a b)) : fn__law_parameter [.bl nil] q x := by
  have ab : ∀ z : Int, absI z ≤ 40 → -40 ≤ z ∧ z ≤ 40 := fun z hz => by unfold absI at hz; split at hz <;> omega
  have lp : ∀ a b : Int, -40 ≤ a → a ≤ 40 → 1 ≤ b → b ≤ 12 → (nil = true ∨ a ≠ 0) → fn__law_pair [.int a, .int b] q x := by
    intro a b a1 a2 b1 b2 hn
    have A : absI a ≤ 40 := by unfold absI; split <;> omega
    have B : absI b = b := by unfold absI; split <;> omega
    exact law_pair q x (by omega) (by omega) fun c d d1 g e A1 B1 => h c d ⟨(ab c (by omega)).1, (ab c (by omega)).2, d1, by omega, g⟩ (hn.imp id fun ha hc => ha (by
      subst hc
      rw [Int.zero_mul] at e
      rcases Int.mul_eq_zero.mp e.symm with h | h
      · exact h
      · omega))
  have lm : q (pr (-1) 1) := h (-1) 1 ⟨by decide, by decide, by decide, by decide, by decide⟩ (.inr (by decide))
  have l0 : ∀ b, 1 ≤ b → b ≤ 12 → if nil = true then fn__law_pair [D.int 0, D.int b] q x else q (D.tup [D.int (-1), D.int 1]) := fun b b1 b2 => by
    cases nil with
    | true => exact lp 0 b (by decide) (by decide) b1 b2 (.inl rfl)
    | false => exact lm
  have ln : ∀ a b : Int, -40 ≤ a → a ≤ 40 → 1 ≤ b → b ≤ 12 → a ≠ 0 → fn__law_pair [.int a, .int b] q x := fun a b a1 a2 b1 b2 h => lp a b a1 a2 b1 b2 (.inr h)
  rw [fn__law_parameter_eq]
  refine ⟨rfl, fun d => ?_⟩
  unfold g__law_parameter
  dsimp only [fSeq, fIfS, fRet, fRetN, fDrop, fAsg, fName, fGtup, fGcons, fGnil, fVar, fK, f1, f2, fNil, fCons, fTup, fLst, fCall, fCallG, fCallK, fTest, gNot, gAnd, gOr, hAnd, hOr, hNot, fIf, fPar2, fPar3, fSkip, fNever, fBrk, fCnt, fItT, fItL, fFor, forL, startD, entry, pick, sIx, sSub, sMul, sDiv, sMod, sPow, sMax2, sMin2, sGcd, sI, sI0, sAdd, sCmp, sLen, sAbs, sInt, sTuple, sList, sNeg, sIsi, sIsN, D.isNon, D.ty,
  DL.lt', DL.le', DL.gt', DL.ge', fSl, fPart, fNo, List.map_cons, List.map_nil, List.length_cons, List.length_nil, List.append_nil, List.nil_append, List.cons_append, List.getElem?_cons_zero, List.getElem?_cons_succ, List.set_cons_zero, List.set_cons_succ, List.replicate_succ, List.replicate_zero, List.filterMap_cons, List.filterMap_nil, Nat.zero_add, Nat.reduceAdd, if_true, if_false, Bool.false_eq_true]
  refine ⟨rfl, 5, rfl, by decide, by decide, fun r r0 r5 => ?_⟩
  have l12 : 12 ≤ LN := by decide
  by_cases h3 : r < 3
  · simp [h3, LN2, l12]
    refine pick_of _ _ (by decide) (by decide) ?_
    simp [sEq]
    exact ⟨ln _ _ (by decide) (by decide) (by decide) (by decide) (by decide), ln _ _ (by decide) (by decide) (by decide) (by decide) (by decide), ln _ _ (by decide) (by decide) (by decide) (by decide) (by decide),
      ln _ _ (by decide) (by decide) (by decide) (by decide) (by decide), ln _ _ (by decide) (by decide) (by decide) (by decide) (by decide), l0 1 (by decide) (by decide), ln _ _ (by decide) (by decide) (by decide) (by decide) (by decide), ln _ _ (by decide) (by decide) (by decide) (by decide) (by decide),
      ln _ _ (by decide) (by decide) (by decide) (by decide) (by decide), ln _ _ (by decide) (by decide) (by decide) (by decide) (by decide), ln _ _ (by decide) (by decide) (by decide) (by decide) (by decide), l0 1 (by decide) (by decide)⟩
  · simp [h3, LN2, l12]
    refine ⟨81, rfl, by decide, by decide, fun u u0 u1 => ?_⟩
    have fin : ∀ v : Int, 0 ≤ v → v < 12 → if u - 40 = 0 then (if nil = true then fn__law_pair [D.int (u - 40), D.int (1 + v)] q x else q (D.tup [D.int (-1), D.int 1])) else fn__law_pair [D.int (u - 40), D.int (1 + v)] q x := fun v v0 v1 => by
      by_cases hu : u - 40 = 0
      · rw [if_pos hu, hu]; exact l0 (1 + v) (by omega) (by omega)
      · rw [if_neg hu]; exact ln _ _ (by omega) (by omega) (by omega) (by omega) hu
    by_cases hr : r = 3
    · simp [sSub, sI0, sEq, hr]
      refine ⟨12, rfl, by decide, by decide, fun v v0 v1 => ?_⟩
      have := fin v v0 v1
      simp at this ⊢
      exact this
    · simp [sSub, sI0, sEq, hr]
      refine ⟨2, rfl, by decide, by decide, fun v v0 v1 => ?_⟩
      have := fin v v0 (by omega)
      simp at this ⊢
      exact this
theorem near_of {a b : Int} (P : Par a b) (h : ∀ c d, Par c d → q (pr c d)) : fn__law_near [pr a b] q x := by
  have := P.lo; have := P.hi; have hb := P.b1; have := P.b12
  have m1 : ∀ z, IntMulOk (-2) z := fun z => mulOk_l (by omega) (by omega)
  have m2 : ∀ z, IntMulOk 2 z := fun z => mulOk_l (by omega) (by omega)
  have m3 : ∀ z, IntMulOk 3 z := fun z => mulOk_l (by omega) (by omega)
  have l5 : 5 ≤ LN := by decide
  have ab : ∀ z : Int, absI z ≤ 40 → -40 ≤ z ∧ z ≤ 40 := fun z hz => by unfold absI at hz; split at hz <;> omega
  have half : q (pr 1 2) := h 1 2 ⟨by decide, by decide, by decide, by decide, by decide⟩
  have lp : ∀ (u : Int) (k : D → Prop), (∀ c d : Int, 1 ≤ d → d ≤ 12 → gcdI c d = 1 → k (pr c d)) → fn__law_pair [.int u, .int b] k x := by
    intro u k hk
    have B : absI b = b := by unfold absI; split <;> omega
    exact law_pair _ x (by omega) (by omega) fun c d d1 g e A1 B1 => hk c d d1 (by omega) g
  rw [fn__law_near_eq]
  refine ⟨rfl, fun d => ?_⟩
  unfold g__law_near
  dsimp only [fSeq, fIfS, fRet, fRetN, fDrop, fAsg, fName, fGtup, fGcons, fGnil, fVar, fK, f1, f2, fNil, fCons, fTup, fLst, fCall, fCallG, fCallK, fTest, gNot, gAnd, gOr, hAnd, hOr, hNot, fIf, fPar2, fPar3, fSkip, fNever, fBrk, fCnt, fItT, fItL, fFor, forL, startD, entry, pick, sIx, sSub, sMul, sDiv, sMod, sPow, sMax2, sMin2, sGcd, sI, sI0, sAdd, sCmp, sLen, sAbs, sInt, sTuple, sList, sNeg, sIsi, sIsN, D.isNon, D.ty,
  DL.lt', DL.le', DL.gt', DL.ge', fSl, fPart, fNo, List.map_cons, List.map_nil, List.length_cons, List.length_nil, List.append_nil, List.nil_append, List.cons_append, List.getElem?_cons_zero, List.getElem?_cons_succ, List.set_cons_zero, List.set_cons_succ, List.replicate_succ, List.replicate_zero, List.filterMap_cons, List.filterMap_nil, Nat.zero_add, Nat.reduceAdd, if_true, if_false, Bool.false_eq_true]
  simp [LN2, l5, m1, m2, m3, atI, ixN]
  refine pick_of _ _ (by simp) (by simp) ?_
  simp
  refine ⟨lp _ _ ?_, lp _ _ ?_, lp _ _ ?_, lp _ _ ?_, lp _ _ ?_⟩ <;>
  · intro c d d1 d2 g
    by_cases hc : absI c ≤ 40
    · simp [atI, ixN, hc]
      exact h c d ⟨(ab c hc).1, (ab c hc).2, d1, d2, g⟩
    · simp [atI, ixN, hc]
      exact half
end
end K54

namespace K54
open PySem PySem.Spec PyProof.Rows L2 DL
theorem one_of_gcd {e f : Int} (g : gcdI e f = 1) (h : f ∣ e) (hf : 0 < f) : f = 1 := (whole_iff hf g).mp ((fmod_zero_iff hf).mpr h)
theorem meixner_mirror {a b c d e f a' b' e' f' : Int} (P : Par a b) (R : Par c d) (T : Par e f) (he : e ≠ 0) (b1 : 1 ≤ b') (g : gcdI a' b' = 1) (f1 : 1 ≤ f') (g' : gcdI e' f' = 1)
    (h1 : a' * (b * d) = (-a * d - c * b) * b') (h2 : e' * e = f * f') : vMeixner a' b' c d e' f' = vMeixner a b c d e f := by
  have hb := P.b1
  have hd := R.b1
  have hf := T.b1
  have hbd : 0 < b * d := Int.mul_pos (by omega) (by omega)
  have hbd' : 0 < b' * d := Int.mul_pos (by omega) (by omega)
  have k1 : (e' = 1 ∧ f' = 1) ↔ (e = 1 ∧ f = 1) := by
    constructor
    · rintro ⟨rfl, rfl⟩
      have : e = f := by omega
      subst this
      have := one_of_gcd T.g (Int.dvd_refl e) (by omega)
      exact ⟨this, this⟩
    · rintro ⟨rfl, rfl⟩
      have : e' = f' := by omega
      subst this
      have := one_of_gcd g' (Int.dvd_refl e') (by omega)
      exact ⟨this, this⟩
  have k2 : (e' = -1 ∧ f' = 1) ↔ (e = -1 ∧ f = 1) := by
    constructor
    · rintro ⟨rfl, rfl⟩
      have : e = -f := by omega
      subst this
      have := one_of_gcd T.g ⟨-1, by omega⟩ (by omega)
      exact ⟨by omega, this⟩
    · rintro ⟨rfl, rfl⟩
      have : e' = -f' := by omega
      subst this
      have := one_of_gcd g' ⟨-1, by omega⟩ (by omega)
      exact ⟨by omega, this⟩
  have k3 : b' = 1 ↔ (a * d + c * b).fmod (b * d) = 0 := by
    rw [← whole_iff (by omega) g, fmod_zero_iff (by omega), fmod_zero_iff hbd]
    exact dvd_swap (by omega) (by omega) (by grind)
  have k4 : (a' * d + c * b').fmod (b' * d) = 0 ↔ b = 1 := by
    rw [← whole_iff (by omega) P.g, fmod_zero_iff hbd', fmod_zero_iff (by omega)]
    exact dvd_swap (by omega) (by omega) (by grind)
  have k5 : (2 * a' * d + c * b').fmod (b' * d) = 0 ↔ (2 * a * d + c * b).fmod (b * d) = 0 := by
    rw [fmod_zero_iff hbd', fmod_zero_iff hbd]
    exact dvd_swap (by omega) (by omega) (by grind)
  unfold vMeixner
  simp only [k1, k2, k3, k4, k5]
  by_cases h1 : e = 1 ∧ f = 1 <;> by_cases h2 : b = 1 <;> by_cases h3 : (a * d + c * b).fmod (b * d) = 0 <;> simp [h1, h2, h3]
end K54

namespace K54
open PySem PySem.Spec PyProof.Rows L2 DL
section
variable (o0 o2 o3 o4 o5 o6 o7 o8 o9 o10 o11 o12 : Option D) (d : Addr) (E : DEnds)
theorem s1 (h : ∀ a b c e : Int, Par a b → Par c e → E.nx [o0, some (.ref d), o2, some (pr a b), some (pr c e), o5, o6, o7, o8, o9, o10, o11, o12]) :
    fPar2 3 4 (fCons (fCallG fn__law_parameter d (fCons (fVar 1) (fCons (fK (.bl true)) fNil))) (fCons (fCallG fn__law_parameter d (fCons (fVar 1) (fCons (fK (.bl true)) fNil))) fNil))
      [o0, some (.ref d), o2, o3, o4, o5, o6, o7, o8, o9, o10, o11, o12] E := by
  dsimp only [fSeq, fIfS, fRet, fRetN, fDrop, fAsg, fName, fGtup, fGcons, fGnil, fVar, fK, f1, f2, fNil, fCons, fTup, fLst, fCall, fCallG, fCallK, fTest, gNot, gAnd, gOr, hAnd, hOr, hNot, fIf, fPar2, fPar3, fSkip, fNever, fBrk, fCnt, fItT, fItL, fFor, forL, startD, entry, pick, sIx, sSub, sMul, sDiv, sMod, sPow, sMax2, sMin2, sGcd, sI, sI0, sAdd, sCmp, sLen, sAbs, sInt, sTuple, sList, sNeg, sIsi, sIsN, D.isNon, D.ty,
  DL.lt', DL.le', DL.gt', DL.ge', fSl, fPart, fNo, List.map_cons, List.map_nil, List.length_cons, List.length_nil, List.append_nil, List.nil_append, List.cons_append, List.getElem?_cons_zero, List.getElem?_cons_succ, List.set_cons_zero, List.set_cons_succ, List.replicate_succ, List.replicate_zero, List.filterMap_cons, List.filterMap_nil, Nat.zero_add, Nat.reduceAdd, if_true, if_false, Bool.false_eq_true]
  refine ⟨rfl, parameter_of _ _ true fun a b P _ => ⟨rfl, parameter_of _ _ true fun c e R _ => ?_⟩⟩
  exact ⟨by simp, by simp, h a b c e P R⟩
theorem s2 {a b : Int} (P : Par a b) (h : ∀ c e : Int, Par c e → E.nx [o0, some (.ref d), o2, some (pr a b), o4, some (pr c e), o6, o7, o8, o9, o10, o11, o12]) :
    fAsg (fIf (fTest (f2 (sEq false) (fCallG fn__law_draw d (fCons (fVar 1) (fCons (fK (.int 2)) fNil))) (fK (.int 0)))) (fCallG fn__law_near d (fCons (fVar 1) (fCons (fVar 3) fNil))) (fCallG fn__law_parameter d (fCons (fVar 1) (fCons (fK (.bl true)) fNil)))) (fName 5)
      [o0, some (.ref d), o2, some (pr a b), o4, o5, o6, o7, o8, o9, o10, o11, o12] E := by
  dsimp only [fSeq, fIfS, fRet, fRetN, fDrop, fAsg, fName, fGtup, fGcons, fGnil, fVar, fK, f1, f2, fNil, fCons, fTup, fLst, fCall, fCallG, fCallK, fTest, gNot, gAnd, gOr, hAnd, hOr, hNot, fIf, fPar2, fPar3, fSkip, fNever, fBrk, fCnt, fItT, fItL, fFor, forL, startD, entry, pick, sIx, sSub, sMul, sDiv, sMod, sPow, sMax2, sMin2, sGcd, sI, sI0, sAdd, sCmp, sLen, sAbs, sInt, sTuple, sList, sNeg, sIsi, sIsN, D.isNon, D.ty,
  DL.lt', DL.le', DL.gt', DL.ge', fSl, fPart, fNo, List.map_cons, List.map_nil, List.length_cons, List.length_nil, List.append_nil, List.nil_append, List.cons_append, List.getElem?_cons_zero, List.getElem?_cons_succ, List.set_cons_zero, List.set_cons_succ, List.replicate_succ, List.replicate_zero, List.filterMap_cons, List.filterMap_nil, Nat.zero_add, Nat.reduceAdd, if_true, if_false, Bool.false_eq_true]
  refine ⟨rfl, 2, rfl, by decide, by decide, fun r _ _ => ?_⟩
  by_cases hr : r = 0
  · simp [sEq, hr]
    exact near_of _ _ P fun c e R => h c e R
  · simp [sEq, hr]
    exact parameter_of _ _ true fun c e R _ => h c e R
theorem s3 (h : ∀ c e : Int, Par c e → c ≠ 0 → E.nx [o0, some (.ref d), o2, o3, o4, o5, some (pr c e), o7, o8, o9, o10, o11, o12]) :
    fAsg (fCallG fn__law_pick d (fCons (fVar 1) (fCons (fLst (fCons (fTup (fCons (fK (.int 1)) (fCons (fK (.int 1)) fNil))) (fCons (fTup (fCons (f1 sNeg (fK (.int 1))) (fCons (fK (.int 1)) fNil))) (fCons (fTup (fCons (f1 sNeg (fK (.int 1))) (fCons (fK (.int 1)) fNil))) (fCons (fCallG fn__law_parameter d (fCons (fVar 1) (fCons (fK (.bl false)) fNil))) (fCons (fCallG fn__law_parameter d (fCons (fVar 1) (fCons (fK (.bl false)) fNil))) fNil)))))) fNil))) (fName 6)
      [o0, some (.ref d), o2, o3, o4, o5, o6, o7, o8, o9, o10, o11, o12] E := by
  have l5 : 5 ≤ LN := by decide
  dsimp only [fSeq, fIfS, fRet, fRetN, fDrop, fAsg, fName, fGtup, fGcons, fGnil, fVar, fK, f1, f2, fNil, fCons, fTup, fLst, fCall, fCallG, fCallK, fTest, gNot, gAnd, gOr, hAnd, hOr, hNot, fIf, fPar2, fPar3, fSkip, fNever, fBrk, fCnt, fItT, fItL, fFor, forL, startD, entry, pick, sIx, sSub, sMul, sDiv, sMod, sPow, sMax2, sMin2, sGcd, sI, sI0, sAdd, sCmp, sLen, sAbs, sInt, sTuple, sList, sNeg, sIsi, sIsN, D.isNon, D.ty,
  DL.lt', DL.le', DL.gt', DL.ge', fSl, fPart, fNo, List.map_cons, List.map_nil, List.length_cons, List.length_nil, List.append_nil, List.nil_append, List.cons_append, List.getElem?_cons_zero, List.getElem?_cons_succ, List.set_cons_zero, List.set_cons_succ, List.replicate_succ, List.replicate_zero, List.filterMap_cons, List.filterMap_nil, Nat.zero_add, Nat.reduceAdd, if_true, if_false, Bool.false_eq_true]
  simp only [LN2, true_and]
  refine parameter_of _ _ false fun a b P ha => parameter_of _ _ false fun c e R hc => ⟨l5, ?_⟩
  simp at ha hc
  refine pick_of _ _ (by simp) (by simp) ?_
  have p1 : Par 1 1 := ⟨by decide, by decide, by decide, by decide, by decide⟩
  have p2 : Par (-1) 1 := ⟨by decide, by decide, by decide, by decide, by decide⟩
  simp
  exact ⟨h _ _ p1 (by decide), h _ _ p2 (by decide), h _ _ P ha, h _ _ R hc⟩
end
end K54

namespace K54
open PySem PySem.Spec PyProof.Rows L2 DL
theorem par_neg {a b : Int} (P : Par a b) : Par (-a) b := ⟨by have := P.hi; omega, by have := P.lo; omega, P.b1, P.b12, by have := P.g; rw [gcdI_eq] at *; rw [Int.neg_gcd]; exact this⟩
theorem vHermite_neg (a : Int) : vHermite (-a) = vHermite a := by
  unfold vHermite
  by_cases h : a = 0
  · subst h; rfl
  · rw [if_neg h, if_neg (by omega)]
theorem vBessel_neg (a : Int) : vBessel (-a) = vBessel a := by
  unfold vBessel
  by_cases h : a = 0
  · subst h; rfl
  · rw [if_neg h, if_neg (by omega)]
theorem vGegen_neg (a b d : Int) : vGegen (-a) b d = vGegen a b d := by
  unfold vGegen
  have e1 : (d = 1 ∨ (-a = 1 ∧ b = 1) ∨ (-a = -1 ∧ b = 1)) ↔ (d = 1 ∨ (a = 1 ∧ b = 1) ∨ (a = -1 ∧ b = 1)) := by omega
  have e2 : -a = 0 ↔ a = 0 := by omega
  simp only [e1, e2]
/-- a verdict's word -/
structure Wd (v : D) : Prop where
  ok : v.ok = true
  shows : v.shows = true
  dep : v.dep = 0
  cost : v.cost ≤ 100
theorem wF : Wd vF := ⟨by decide +kernel, rfl, rfl, by decide +kernel⟩
theorem wL : Wd vL := ⟨by decide +kernel, rfl, rfl, by decide +kernel⟩
theorem wN : Wd vN := ⟨by decide +kernel, rfl, rfl, by decide +kernel⟩
theorem wHermite (a : Int) : Wd (vHermite a) := by unfold vHermite; split; exact wL; exact wN
theorem wBessel (a : Int) : Wd (vBessel a) := by unfold vBessel; split; exact wF; exact wN
theorem wCharlier (a : Int) : Wd (vCharlier a) := by unfold vCharlier; split; exact wF; exact wN
theorem wGegen (a b d : Int) : Wd (vGegen a b d) := by unfold vGegen; split; exact wF; split; exact wL; exact wN
theorem wMeixner (a b c d e f : Int) : Wd (vMeixner a b c d e f) := by unfold vMeixner; split; exact wF; split; exact wL; exact wN
theorem repr_same {v1 v2 v3 v4 v5 v6 v7 : D} (h1 : Wd v1) (h2 : Wd v2) (h3 : Wd v3) (h4 : Wd v4) (h5 : Wd v5) (h6 : Wd v6) (h7 : Wd v7) (q : D → Prop) (x : XD) (h : q (.bl false)) :
    sRepr (.tup [.lst [v1, v2, v3, v4, v5, v6, v7], .lst [v1, v2, v3, v4, v5, v6, v7]]) (fun a => sRepr (.tup [.lst [v1, v2, v3, v4, v5, v6, v7], .lst [v1, v2, v3, v4, v5, v6, v7]]) (fun b => sEq true a b q x) x) x := by
  have e1 : (D.tup [.lst [v1, v2, v3, v4, v5, v6, v7], .lst [v1, v2, v3, v4, v5, v6, v7]]).ok = true := by simp [D.ok, D.oks, h1.ok, h2.ok, h3.ok, h4.ok, h5.ok, h6.ok, h7.ok]
  have e2 : (D.tup [.lst [v1, v2, v3, v4, v5, v6, v7], .lst [v1, v2, v3, v4, v5, v6, v7]]).shows = true := by simp [D.shows, D.showss, h1.shows, h2.shows, h3.shows, h4.shows, h5.shows, h6.shows, h7.shows]
  have e3 : (D.tup [.lst [v1, v2, v3, v4, v5, v6, v7], .lst [v1, v2, v3, v4, v5, v6, v7]]).dep ≤ 60 := by simp [D.dep, D.deps, h1.dep, h2.dep, h3.dep, h4.dep, h5.dep, h6.dep, h7.dep]
  have e4 : (D.tup [.lst [v1, v2, v3, v4, v5, v6, v7], .lst [v1, v2, v3, v4, v5, v6, v7]]).cost ≤ LN := by
    have := h1.cost; have := h2.cost; have := h3.cost; have := h4.cost; have := h5.cost; have := h6.cost; have := h7.cost
    simp [D.cost, D.costs]
    show _ ≤ 1000000
    omega
  refine ⟨e1, e2, e3, e4, e1, e2, e3, e4, ?_⟩
  simp [sEq]
  exact h
theorem ne_same {v1 v2 v3 : D} (h1 : Wd v1) (h2 : Wd v2) (h3 : Wd v3) (q : D → Prop) (x : XD) : sEq true (.lst [v1, v2, v3]) (.lst [v1, v2, v3]) q x = q (.bl false) := by
  unfold sEq
  simp [D.ok, D.oks, h1.ok, h2.ok, h3.ok, D.dep, D.deps, h1.dep, h2.dep, h3.dep, eqD_self]
theorem ne_wd {v : D} (h : Wd v) (q : D → Prop) (x : XD) (hs : v = vF ∨ v = vL ∨ v = vN) : sEq true v v q x = q (.bl false) := by
  rcases hs with rfl | rfl | rfl <;> simp [sEq]
theorem meixner_three (a b c d e f : Int) : vMeixner a b c d e f = vF ∨ vMeixner a b c d e f = vL ∨ vMeixner a b c d e f = vN := by
  unfold vMeixner
  split
  · exact .inl rfl
  · split
    · exact .inr (.inl rfl)
    · exact .inr (.inr rfl)
theorem s4 (o0 o2 o7 o8 o9 o10 o11 o12 : Option D) (d : Addr) (E : DEnds) {x0 x1 h0 h1 l0 l1 t0 t1 : Int} (X : Par x0 x1) (H : Par h0 h1) (L : Par l0 l1) (T : Par t0 t1) (ht : t0 ≠ 0)
    (hn : ∀ r : Ro, r.length = 11 → E.nx (o0 :: some (.ref d) :: r)) :
      (fSeq (fAsg (fLst (fCons (fCall fn_steady_verdict [] (fCons (fVar 3) (fCons (fVar 6) fNil))) (fCons (fCall fn_hermite_verdict [] (fCons (fVar 3) (fCons (fVar 4) fNil))) (fCons (fCall fn_bessel_verdict [] (fCons (fVar 3) (fCons (fVar 5) (fCons (fVar 6) fNil)))) (fCons (fCall fn_gegenbauer_verdict [] (fCons (fVar 3) (fCons (fVar 5) fNil))) (fCons (fCall fn_laguerre_verdict [] (fCons (fVar 3) (fCons (fVar 5) fNil))) fNil)))))) (fName 7))
  (fSeq (fAsg (f2 sAdd (fVar 7) (fLst (fCons (fCall fn_charlier_verdict [] (fCons (fVar 3) (fCons (fVar 6) fNil))) (fCons (fCall fn_meixner_verdict [] (fCons (fVar 3) (fCons (fVar 5) (fCons (fVar 6) fNil)))) fNil)))) (fName 7))
  (fSeq (fAsg (fLst (fCons (fCallK fn_steady_verdict 0 2 [1, 0] fNil (fCons (fVar 6) (fCons (fVar 3) fNil))) (fCons (fCallK fn_hermite_verdict 0 2 [1, 0] fNil (fCons (fVar 4) (fCons (fVar 3) fNil))) (fCons (fCallK fn_bessel_verdict 0 3 [2, 1, 0] fNil (fCons (fVar 6) (fCons (fVar 5) (fCons (fVar 3) fNil)))) (fCons (fCallK fn_gegenbauer_verdict 0 2 [1, 0] fNil (fCons (fVar 5) (fCons (fVar 3) fNil))) fNil))))) (fName 8))
  (fSeq (fAsg (f2 sAdd (fVar 8) (fLst (fCons (fCallK fn_laguerre_verdict 0 2 [1, 0] fNil (fCons (fVar 5) (fCons (fVar 3) fNil))) (fCons (fCallK fn_charlier_verdict 0 2 [1, 0] fNil (fCons (fVar 6) (fCons (fVar 3) fNil))) (fCons (fCallK fn_meixner_verdict 0 3 [2, 1, 0] fNil (fCons (fVar 6) (fCons (fVar 5) (fCons (fVar 3) fNil)))) fNil))))) (fName 8))
  (fSeq (fAsg (fLst (fCons (fCall fn__law_named_verdict [] (fCons (fK (.str "steady")) (fCons (fTup (fCons (fVar 3) (fCons (fVar 6) fNil))) fNil))) (fCons (fCall fn__law_named_verdict [] (fCons (fK (.str "hermite")) (fCons (fTup (fCons (fVar 3) (fCons (fVar 4) fNil))) fNil))) (fCons (fCall fn__law_named_verdict [] (fCons (fK (.str "bessel")) (fCons (fTup (fCons (fVar 3) (fCons (fVar 5) (fCons (fVar 6) fNil)))) fNil))) fNil)))) (fName 9))
  (fSeq (fAsg (f2 sAdd (fVar 9) (fLst (fCons (fCall fn__law_named_verdict [] (fCons (fK (.str "gegenbauer")) (fCons (fTup (fCons (fVar 3) (fCons (fVar 5) fNil))) fNil))) (fCons (fCall fn__law_named_verdict [] (fCons (fK (.str "laguerre")) (fCons (fTup (fCons (fVar 3) (fCons (fVar 5) fNil))) fNil))) fNil)))) (fName 9))
  (fSeq (fAsg (f2 sAdd (fVar 9) (fLst (fCons (fCall fn__law_named_verdict [] (fCons (fK (.str "charlier")) (fCons (fTup (fCons (fVar 3) (fCons (fVar 6) fNil))) fNil))) (fCons (fCall fn__law_named_verdict [] (fCons (fK (.str "meixner")) (fCons (fTup (fCons (fVar 3) (fCons (fVar 5) (fCons (fVar 6) fNil)))) fNil))) fNil)))) (fName 9))
  (fSeq (fIfS (fTest (f2 (sEq true) (f1 sReprT (fTup (fCons (fVar 7) (fCons (fVar 8) fNil)))) (f1 sReprT (fTup (fCons (fVar 9) (fCons (fVar 9) fNil))))))
  (fRet (fK (.bl false)))
  fSkip)
  (fSeq (fAsg (fTup (fCons (f1 sNeg (f2 sIx (fVar 3) (fK (.int 0)))) (fCons (f2 sIx (fVar 3) (fK (.int 1))) fNil))) (fName 10))
  (fSeq (fIfS (fTest (f2 (sEq true) (fLst (fCons (fCall fn_hermite_verdict [] (fCons (fVar 10) (fCons (fVar 4) fNil))) (fCons (fCall fn_bessel_verdict [] (fCons (fVar 10) (fCons (fVar 5) (fCons (fVar 6) fNil)))) (fCons (fCall fn_gegenbauer_verdict [] (fCons (fVar 10) (fCons (fVar 5) fNil))) fNil)))) (fSl (fVar 7) (fPart (fK (.int 1))) (fPart (fK (.int 4))))))
  (fRet (fK (.bl false)))
  fSkip)
  (fSeq (fPar2 11 12 (fCons (fCall fn__law_pair [] (fCons (f2 sSub (f2 sMul (f1 sNeg (f2 sIx (fVar 3) (fK (.int 0)))) (f2 sIx (fVar 5) (fK (.int 1)))) (f2 sMul (f2 sIx (fVar 5) (fK (.int 0))) (f2 sIx (fVar 3) (fK (.int 1))))) (fCons (f2 sMul (f2 sIx (fVar 3) (fK (.int 1))) (f2 sIx (fVar 5) (fK (.int 1)))) fNil))) (fCons (fCall fn__law_pair [] (fCons (f2 sIx (fVar 6) (fK (.int 1))) (fCons (f2 sIx (fVar 6) (fK (.int 0))) fNil))) fNil)))
  (fIfS (gAnd (fTest (f2 (sCmp le') (f1 sAbs (f2 sIx (fVar 11) (fK (.int 0)))) (fK (.int 40)))) (gAnd (fTest (f2 (sCmp le') (f2 sIx (fVar 11) (fK (.int 1))) (fK (.int 12)))) (gAnd (fTest (f2 (sCmp le') (f2 sIx (fVar 12) (fK (.int 1))) (fK (.int 12)))) (fTest (f2 (sEq true) (fCall fn_meixner_verdict [] (fCons (fVar 11) (fCons (fVar 5) (fCons (fVar 12) fNil)))) (f2 sIx (fVar 7) (fK (.int 6))))))))
  (fRet (fK (.bl false)))
  fSkip))))))))))))
      [o0, some (.ref d), o2, some (pr x0 x1), some (pr h0 h1), some (pr l0 l1), some (pr t0 t1), o7, o8, o9, o10, o11, o12] E := by
  have l3 : 3 ≤ LN := by decide
  have l4 : 4 ≤ LN := by decide
  have l5 : 5 ≤ LN := by decide
  have l7 : 7 ≤ LN := by decide
  have l2 : 2 ≤ LN := by decide
  dsimp only [fSeq, fIfS, fRet, fRetN, fDrop, fAsg, fName, fGtup, fGcons, fGnil, fVar, fK, f1, f2, fNil, fCons, fTup, fLst, fCall, fCallG, fCallK, fTest, gNot, gAnd, gOr, hAnd, hOr, hNot, fIf, fPar2, fPar3, fSkip, fNever, fBrk, fCnt, fItT, fItL, fFor, forL, startD, entry, pick, D.isNon,
  DL.lt', DL.le', DL.gt', DL.ge', fSl, fPart, fNo, List.map_cons, List.map_nil, List.length_cons, List.length_nil, List.append_nil, List.nil_append, List.cons_append, List.getElem?_cons_zero, List.getElem?_cons_succ, List.set_cons_zero, List.set_cons_succ, List.replicate_succ, List.replicate_zero, List.filterMap_cons, List.filterMap_nil, Nat.zero_add, Nat.reduceAdd, if_true, if_false, Bool.false_eq_true]
  simp only [ev_add_int, ev_add_lst, ev_add_tup, ev_add_str, ev_cat, ev_cmp, ev_sub, ev_mul, ev_div, ev_mod, ev_pow, ev_max2, ev_min2, ev_gcd, ev_neg, ev_abs, ev_int, ev_intb, ev_len_tup, ev_len_lst, ev_tuple_tup, ev_tuple_lst, ev_list_tup, ev_list_lst, ev_rev, ev_rep, ev_ix0t, ev_ix1t, ev_ix2t, ev_ix0l, ev_ix1l, ev_eq_int, ev_eq_str, ev_isn, ev_ty_non, ev_ty_bl, ev_ty_int, ev_ty_str, ev_ty_tup, ev_ty_lst, List.map_cons, List.map_nil, List.length_cons, List.length_nil, List.append_nil, List.nil_append, List.cons_append, List.getElem?_cons_zero, List.getElem?_cons_succ, List.set_cons_zero, List.set_cons_succ, Nat.zero_add, Nat.reduceAdd, Nat.reduceLT, l2, l3, l4, l5, l7, true_and, steady_eq _ _ X T ht, hermite_eq _ _ X H, bessel_eq _ _ X L T ht, gegen_eq _ _ X L, laguerre_eq _ _ X L, charlier_eq _ _ X T ht, meixner_eq _ _ X L T ht, nv_steady, nv_hermite, nv_bessel, nv_laguerre, nv_gegen, nv_charlier, nv_meixner _ _ _ _ X L, l2, l3, l4, l5, l7]
  refine repr_same wF (wHermite _) (wBessel _) (wGegen _ _ _) (wBessel _) (wCharlier _) (wMeixner _ _ _ _ _ _) _ _ ?_
  have N := par_neg X
  simp only [Bool.false_eq_true, if_false, hermite_eq _ _ N H, bessel_eq _ _ N L T ht, gegen_eq _ _ N L, vHermite_neg, vBessel_neg, vGegen_neg]
  have ec : ∀ v1 v2 v3 v4 v5 v6 v7 : D, DL.cutD [v1, v2, v3, v4, v5, v6, v7] (some 1) (some 4) = [v2, v3, v4] := fun _ _ _ _ _ _ _ => rfl
  rw [ec, ne_same (wHermite _) (wBessel _) (wGegen _ _ _)]
  have := X.lo; have := X.hi; have hb := X.b1; have := X.b12
  have := L.lo; have := L.hi; have hd := L.b1; have := L.b12
  have := T.lo; have := T.hi; have hf := T.b1; have := T.b12
  have hbd : 0 < x1 * l1 := Int.mul_pos (by omega) (by omega)
  have hbd2 : x1 * l1 ≤ 12 * 12 := Int.mul_le_mul (by omega) (by omega) (by omega) (by omega)
  refine ⟨mulOk_l (by omega) (by omega), mulOk_l (by omega) (by omega), mulOk_l (by omega) (by omega), ?_⟩
  have B1 : absI (x1 * l1) = x1 * l1 := by unfold absI; split <;> omega
  refine law_pair _ _ (by omega) (by rw [B1]; omega) fun a b b1 g e1 A1 A2 => ?_
  have B2 : absI t0 ≤ 40 := by unfold absI; split <;> omega
  have B3 : absI t1 = t1 := by unfold absI; split <;> omega
  refine law_pair _ _ ht (by omega) fun c f f1 g' e2 A3 A4 => ?_
  have A3' : -40 ≤ c ∧ c ≤ 40 := by rw [B3] at A3; unfold absI at A3; split at A3 <;> omega
  simp only [ev_ix0t, ev_ix1t, ev_abs, ev_cmp, DL.le']
  have fin : E.nx (o0 :: some (.ref d) :: [o2, some (pr x0 x1), some (pr h0 h1), some (pr l0 l1), some (pr t0 t1), some (D.lst [vF, vHermite x0, vBessel x0, vGegen x0 x1 l1, vBessel x0, vCharlier x1, vMeixner x0 x1 l0 l1 t0 t1]), some (D.lst [vF, vHermite x0, vBessel x0, vGegen x0 x1 l1, vBessel x0, vCharlier x1, vMeixner x0 x1 l0 l1 t0 t1]), some (D.lst [vF, vHermite x0, vBessel x0, vGegen x0 x1 l1, vBessel x0, vCharlier x1, vMeixner x0 x1 l0 l1 t0 t1]), some (pr (-x0) x1), some (pr a b), some (pr c f)]) := hn _ rfl
  have h6 : ∀ (v1 v2 v3 v4 v5 v6 v7 : D) (q : D → Prop) (x : XD), sIx (.lst [v1, v2, v3, v4, v5, v6, v7]) (.int 6) q x = q v7 := fun _ _ _ _ _ _ _ q x => ev_ix_lst q x (atI_nat (n := 6) rfl)
  by_cases c1 : absI a ≤ 40
  · by_cases c2 : b ≤ 12
    · by_cases c3 : f ≤ 12
      · simp only [c1, c2, c3, decide_true, if_true]
        have Pa : Par a b := ⟨by unfold absI at c1; split at c1 <;> omega, by unfold absI at c1; split at c1 <;> omega, b1, c2, g⟩
        have hc : c ≠ 0 := by
          rintro rfl
          rw [Int.zero_mul] at e2
          rcases Int.mul_eq_zero.mp e2.symm with h | h <;> omega
        have Pc : Par c f := ⟨A3'.1, A3'.2, f1, c3, g'⟩
        rw [meixner_eq _ _ Pa L Pc hc, h6, meixner_mirror X L T ht b1 g f1 g' e1 e2, ne_wd (wMeixner _ _ _ _ _ _) _ _ (meixner_three _ _ _ _ _ _)]
        exact fin
      · simp only [c1, c2, c3, decide_true, decide_false, if_true, Bool.false_eq_true, if_false]
        exact fin
    · simp only [c1, c2, decide_true, decide_false, if_true, Bool.false_eq_true, if_false]
      exact fin
  · simp only [c1, decide_true, decide_false, if_true, Bool.false_eq_true, if_false]
    exact fin
end K54

namespace K54
open PySem PySem.Spec PyProof.Rows L2 DL
theorem G_law (a d : Addr) : g_law d (lawStart 13 a d) lawEnds := by
  unfold g_law
  refine ⟨by decide, by decide, forL_inv (fun l ρ => ∃ r : Ro, ρ = some (.ref a) :: some (.ref d) :: r ∧ r.length = 11) ?_ ?_ _ _ ⟨_, rfl, rfl⟩⟩
  · rintro ρ ⟨r, rfl, _⟩
    exact rfl
  · rintro a' l ρ ⟨r, rfl, hr⟩ nx hn
    match r, hr with
    | [o2, o3, o4, o5, o6, o7, o8, o9, o10, o11, o12], _ =>
      refine ⟨by simp, ?_⟩
      refine s1 (some (.ref a)) (some a') o3 o4 o5 o6 o7 o8 o9 o10 o11 o12 d _ fun x0 x1 h0 h1 X H => ?_
      refine s2 (some (.ref a)) (some a') (some (pr h0 h1)) o5 o6 o7 o8 o9 o10 o11 o12 d _ X fun l0 l1 L => ?_
      refine s3 (some (.ref a)) (some a') (some (pr x0 x1)) (some (pr h0 h1)) (some (pr l0 l1)) o6 o7 o8 o9 o10 o11 o12 d _ fun t0 t1 T ht => ?_
      exact s4 (some (.ref a)) (some a') o7 o8 o9 o10 o11 o12 d _ X H L T ht fun r hr => hn _ ⟨r, rfl, hr⟩
end K54

namespace K54
open PySem PySem.Spec PyProof.Rows L2 DL
def d_is_whole : He.DefD := ⟨("is_whole", none), "is_whole", "is_whole", defArgs (top 5), defBody (top 5), defScope (top 5), [], []⟩
def d_is_pair_value : He.DefD := ⟨("is_pair_value", none), "is_pair_value", "is_pair_value", defArgs (top 7), defBody (top 7), defScope (top 7), [], []⟩
def d_is_parameter : He.DefD := ⟨("is_parameter", none), "is_parameter", "is_parameter", defArgs (top 14), defBody (top 14), defScope (top 14), [], []⟩
def d_need_parameters : He.DefD := ⟨("need_parameters", none), "need_parameters", "need_parameters", defArgs (top 15), defBody (top 15), defScope (top 15), [.non], []⟩
def d_need_t : He.DefD := ⟨("need_t", none), "need_t", "need_t", defArgs (top 16), defBody (top 16), defScope (top 16), [], []⟩
def d_total : He.DefD := ⟨("total", none), "total", "total", defArgs (top 17), defBody (top 17), defScope (top 17), [], []⟩
def d_whole : He.DefD := ⟨("whole", none), "whole", "whole", defArgs (top 18), defBody (top 18), defScope (top 18), [], []⟩
def d_is_zero : He.DefD := ⟨("is_zero", none), "is_zero", "is_zero", defArgs (top 19), defBody (top 19), defScope (top 19), [], []⟩
def d_is_integer_pair : He.DefD := ⟨("is_integer_pair", none), "is_integer_pair", "is_integer_pair", defArgs (top 20), defBody (top 20), defScope (top 20), [], []⟩
def d_steady_verdict : He.DefD := ⟨("steady_verdict", none), "steady_verdict", "steady_verdict", defArgs (top 21), defBody (top 21), defScope (top 21), [], []⟩
def d_hermite_verdict : He.DefD := ⟨("hermite_verdict", none), "hermite_verdict", "hermite_verdict", defArgs (top 22), defBody (top 22), defScope (top 22), [], []⟩
def d_bessel_verdict : He.DefD := ⟨("bessel_verdict", none), "bessel_verdict", "bessel_verdict", defArgs (top 23), defBody (top 23), defScope (top 23), [], []⟩
def d_gegenbauer_verdict : He.DefD := ⟨("gegenbauer_verdict", none), "gegenbauer_verdict", "gegenbauer_verdict", defArgs (top 24), defBody (top 24), defScope (top 24), [], []⟩
def d_laguerre_verdict : He.DefD := ⟨("laguerre_verdict", none), "laguerre_verdict", "laguerre_verdict", defArgs (top 25), defBody (top 25), defScope (top 25), [], []⟩
def d_charlier_verdict : He.DefD := ⟨("charlier_verdict", none), "charlier_verdict", "charlier_verdict", defArgs (top 26), defBody (top 26), defScope (top 26), [], []⟩
def d_meixner_verdict : He.DefD := ⟨("meixner_verdict", none), "meixner_verdict", "meixner_verdict", defArgs (top 27), defBody (top 27), defScope (top 27), [], []⟩
def d__law_deck : He.DefD := ⟨("_law_deck", none), "_law_deck", "_law_deck", defArgs (top 29), defBody (top 29), defScope (top 29), [], []⟩
def d__law_draw : He.DefD := ⟨("_law_draw", none), "_law_draw", "_law_draw", defArgs (top 30), defBody (top 30), defScope (top 30), [], []⟩
def d__law_pick : He.DefD := ⟨("_law_pick", none), "_law_pick", "_law_pick", defArgs (top 31), defBody (top 31), defScope (top 31), [], []⟩
def d__law_common : He.DefD := ⟨("_law_common", none), "_law_common", "_law_common", defArgs (top 32), defBody (top 32), defScope (top 32), [], []⟩
def d__law_pair : He.DefD := ⟨("_law_pair", none), "_law_pair", "_law_pair", defArgs (top 33), defBody (top 33), defScope (top 33), [], []⟩
def d__law_is_whole : He.DefD := ⟨("_law_is_whole", none), "_law_is_whole", "_law_is_whole", defArgs (top 34), defBody (top 34), defScope (top 34), [], []⟩
def d__law_named_verdict : He.DefD := ⟨("_law_named_verdict", none), "_law_named_verdict", "_law_named_verdict", defArgs (top 35), defBody (top 35), defScope (top 35), [], []⟩
def d__law_parameter : He.DefD := ⟨("_law_parameter", none), "_law_parameter", "_law_parameter", defArgs (top 36), defBody (top 36), defScope (top 36), [], []⟩
def d__law_near : He.DefD := ⟨("_law_near", none), "_law_near", "_law_near", defArgs (top 37), defBody (top 37), defScope (top 37), [], []⟩
def d_law : He.DefD := ⟨("law", none), "law", "law", defArgs (top 38), defBody (top 38), defScope (top 38), [], []⟩
def fnL : List He.DefD := [d_is_whole, d_is_pair_value, d_is_parameter, d_need_parameters, d_need_t, d_total, d_whole, d_is_zero, d_is_integer_pair, d_steady_verdict, d_hermite_verdict, d_bessel_verdict, d_gegenbauer_verdict, d_laguerre_verdict, d_charlier_verdict, d_meixner_verdict, d__law_deck, d__law_draw, d__law_pick, d__law_common, d__law_pair, d__law_is_whole, d__law_named_verdict, d__law_parameter, d__law_near, d_law]
def faL : List He.Fa := [.glo "is_whole", .glo "is_pair_value", .glo "is_parameter", .glo "need_parameters", .glo "need_t", .glo "total", .glo "whole", .glo "is_zero", .glo "is_integer_pair", .glo "steady_verdict", .glo "hermite_verdict", .glo "bessel_verdict", .glo "gegenbauer_verdict", .glo "laguerre_verdict", .glo "charlier_verdict", .glo "meixner_verdict", .glo "_law_deck", .glo "_law_draw", .glo "_law_pick", .glo "_law_common", .glo "_law_pair", .glo "_law_is_whole", .glo "_law_named_verdict", .glo "_law_parameter", .glo "_law_near", .glo "law", .free "abs", .free "bool", .free "int", .free "isinstance", .free "len", .free "list", .free "max", .free "range", .free "repr", .free "tuple"]
def exL (K : PySem.W.Frag) : Bool := (bltB K "gcd" "math.gcd" && (conB K "FORMULA" (.str "formula") && (conB K "LAID" (.str "laid") && (conB K "MOST_BOTTOM" (.int 12) && (conB K "MOST_TOP" (.int 40) && conB K "NOTHING" (.str "nothing"))))))
abbrev R : PySem.W.OpenRow := PySem.W.OpenLaw.row PySem.Challenge.rw_twicestep_k54_verdicts_of_named_rules
abbrev hk : PySem.W.Hook := hookC 4 faL fnL exL
def ob (s : PySem.W.SharedT) : AlC := obsC 4 faL fnL exL (HandSHeadRun.getT s)
theorem ob_eq (s : PySem.W.SharedT) : ob s = hk.obs s.abs := obsC_eq (HandSHeadRun.getT_eq s)
def names0 : List PySem.Str := ["__name__", "StepError", "BadParameter", "is_whole", "is_pair_value", "MOST_TOP", "MOST_BOTTOM", "FORMULA", "LAID", "NOTHING", "is_parameter", "need_parameters"]
def names1 : List PySem.Str := ["need_t", "total", "whole", "is_zero", "is_integer_pair", "steady_verdict", "hermite_verdict", "bessel_verdict", "gegenbauer_verdict", "laguerre_verdict", "charlier_verdict", "meixner_verdict"]
def names2 : List PySem.Str := ["_law_deck", "_law_draw", "_law_pick", "_law_common", "_law_pair", "_law_is_whole", "_law_named_verdict", "_law_parameter", "_law_near"]
def names : List PySem.Str := names0 ++ names1 ++ names2
theorem run (w : World) : HandSHeadRun.RunEqI R (PySem.W.view R.prog [0, 38]) hk ob 6000 names w := by
  unfold HandSHeadRun.RunEqI
  kernel_rfl
theorem facts {P : Program} {w : World} {K : PySem.W.Frag} {h : Heap} {mg : Str → Option Value} {f : Addr} (X : K.In h) (G : h.Ns mainGlobals mg) (hfa : mg ("law" : Str) = some (.ref f)) (c : He.SaysD faL fnL K) (ce : exL K = true) :
    ∃ fd : FuncData, (∀ (s : Shared) (v : Value), BindsTo s fd ⟨[v], []⟩ [("script", v)]) ∧ ∀ base : Heap, K.In base → base.Ns mainGlobals mg → FnG P w K mg base CX0 7 f fd p_law (spLaw K) := by
  obtain ⟨fd_is_whole, F_is_whole⟩ := c.def_ 0 (d := d_is_whole) rfl
  have F_is_whole : FnP K "is_whole" (top 5) [] (He.ga K "is_whole") fd_is_whole := F_is_whole
  have m_is_whole : mg "is_whole" = some (.ref (He.ga K "is_whole")) := He.glo_ok X G (c.fact 0 (f := .glo "is_whole") rfl)
  obtain ⟨fd_is_pair_value, F_is_pair_value⟩ := c.def_ 1 (d := d_is_pair_value) rfl
  have F_is_pair_value : FnP K "is_pair_value" (top 7) [] (He.ga K "is_pair_value") fd_is_pair_value := F_is_pair_value
  have m_is_pair_value : mg "is_pair_value" = some (.ref (He.ga K "is_pair_value")) := He.glo_ok X G (c.fact 1 (f := .glo "is_pair_value") rfl)
  obtain ⟨fd_is_parameter, F_is_parameter⟩ := c.def_ 2 (d := d_is_parameter) rfl
  have F_is_parameter : FnP K "is_parameter" (top 14) [] (He.ga K "is_parameter") fd_is_parameter := F_is_parameter
  have m_is_parameter : mg "is_parameter" = some (.ref (He.ga K "is_parameter")) := He.glo_ok X G (c.fact 2 (f := .glo "is_parameter") rfl)
  obtain ⟨fd_need_parameters, F_need_parameters⟩ := c.def_ 3 (d := d_need_parameters) rfl
  have F_need_parameters : FnP K "need_parameters" (top 15) [.non] (He.ga K "need_parameters") fd_need_parameters := F_need_parameters
  have m_need_parameters : mg "need_parameters" = some (.ref (He.ga K "need_parameters")) := He.glo_ok X G (c.fact 3 (f := .glo "need_parameters") rfl)
  obtain ⟨fd_need_t, F_need_t⟩ := c.def_ 4 (d := d_need_t) rfl
  have F_need_t : FnP K "need_t" (top 16) [] (He.ga K "need_t") fd_need_t := F_need_t
  have m_need_t : mg "need_t" = some (.ref (He.ga K "need_t")) := He.glo_ok X G (c.fact 4 (f := .glo "need_t") rfl)
  obtain ⟨fd_total, F_total⟩ := c.def_ 5 (d := d_total) rfl
  have F_total : FnP K "total" (top 17) [] (He.ga K "total") fd_total := F_total
  have m_total : mg "total" = some (.ref (He.ga K "total")) := He.glo_ok X G (c.fact 5 (f := .glo "total") rfl)
  obtain ⟨fd_whole, F_whole⟩ := c.def_ 6 (d := d_whole) rfl
  have F_whole : FnP K "whole" (top 18) [] (He.ga K "whole") fd_whole := F_whole
  have m_whole : mg "whole" = some (.ref (He.ga K "whole")) := He.glo_ok X G (c.fact 6 (f := .glo "whole") rfl)
  obtain ⟨fd_is_zero, F_is_zero⟩ := c.def_ 7 (d := d_is_zero) rfl
  have F_is_zero : FnP K "is_zero" (top 19) [] (He.ga K "is_zero") fd_is_zero := F_is_zero
  have m_is_zero : mg "is_zero" = some (.ref (He.ga K "is_zero")) := He.glo_ok X G (c.fact 7 (f := .glo "is_zero") rfl)
  obtain ⟨fd_is_integer_pair, F_is_integer_pair⟩ := c.def_ 8 (d := d_is_integer_pair) rfl
  have F_is_integer_pair : FnP K "is_integer_pair" (top 20) [] (He.ga K "is_integer_pair") fd_is_integer_pair := F_is_integer_pair
  have m_is_integer_pair : mg "is_integer_pair" = some (.ref (He.ga K "is_integer_pair")) := He.glo_ok X G (c.fact 8 (f := .glo "is_integer_pair") rfl)
  obtain ⟨fd_steady_verdict, F_steady_verdict⟩ := c.def_ 9 (d := d_steady_verdict) rfl
  have F_steady_verdict : FnP K "steady_verdict" (top 21) [] (He.ga K "steady_verdict") fd_steady_verdict := F_steady_verdict
  have m_steady_verdict : mg "steady_verdict" = some (.ref (He.ga K "steady_verdict")) := He.glo_ok X G (c.fact 9 (f := .glo "steady_verdict") rfl)
  obtain ⟨fd_hermite_verdict, F_hermite_verdict⟩ := c.def_ 10 (d := d_hermite_verdict) rfl
  have F_hermite_verdict : FnP K "hermite_verdict" (top 22) [] (He.ga K "hermite_verdict") fd_hermite_verdict := F_hermite_verdict
  have m_hermite_verdict : mg "hermite_verdict" = some (.ref (He.ga K "hermite_verdict")) := He.glo_ok X G (c.fact 10 (f := .glo "hermite_verdict") rfl)
  obtain ⟨fd_bessel_verdict, F_bessel_verdict⟩ := c.def_ 11 (d := d_bessel_verdict) rfl
  have F_bessel_verdict : FnP K "bessel_verdict" (top 23) [] (He.ga K "bessel_verdict") fd_bessel_verdict := F_bessel_verdict
  have m_bessel_verdict : mg "bessel_verdict" = some (.ref (He.ga K "bessel_verdict")) := He.glo_ok X G (c.fact 11 (f := .glo "bessel_verdict") rfl)
  obtain ⟨fd_gegenbauer_verdict, F_gegenbauer_verdict⟩ := c.def_ 12 (d := d_gegenbauer_verdict) rfl
  have F_gegenbauer_verdict : FnP K "gegenbauer_verdict" (top 24) [] (He.ga K "gegenbauer_verdict") fd_gegenbauer_verdict := F_gegenbauer_verdict
  have m_gegenbauer_verdict : mg "gegenbauer_verdict" = some (.ref (He.ga K "gegenbauer_verdict")) := He.glo_ok X G (c.fact 12 (f := .glo "gegenbauer_verdict") rfl)
  obtain ⟨fd_laguerre_verdict, F_laguerre_verdict⟩ := c.def_ 13 (d := d_laguerre_verdict) rfl
  have F_laguerre_verdict : FnP K "laguerre_verdict" (top 25) [] (He.ga K "laguerre_verdict") fd_laguerre_verdict := F_laguerre_verdict
  have m_laguerre_verdict : mg "laguerre_verdict" = some (.ref (He.ga K "laguerre_verdict")) := He.glo_ok X G (c.fact 13 (f := .glo "laguerre_verdict") rfl)
  obtain ⟨fd_charlier_verdict, F_charlier_verdict⟩ := c.def_ 14 (d := d_charlier_verdict) rfl
  have F_charlier_verdict : FnP K "charlier_verdict" (top 26) [] (He.ga K "charlier_verdict") fd_charlier_verdict := F_charlier_verdict
  have m_charlier_verdict : mg "charlier_verdict" = some (.ref (He.ga K "charlier_verdict")) := He.glo_ok X G (c.fact 14 (f := .glo "charlier_verdict") rfl)
  obtain ⟨fd_meixner_verdict, F_meixner_verdict⟩ := c.def_ 15 (d := d_meixner_verdict) rfl
  have F_meixner_verdict : FnP K "meixner_verdict" (top 27) [] (He.ga K "meixner_verdict") fd_meixner_verdict := F_meixner_verdict
  have m_meixner_verdict : mg "meixner_verdict" = some (.ref (He.ga K "meixner_verdict")) := He.glo_ok X G (c.fact 15 (f := .glo "meixner_verdict") rfl)
  obtain ⟨fd__law_deck, F__law_deck⟩ := c.def_ 16 (d := d__law_deck) rfl
  have F__law_deck : FnP K "_law_deck" (top 29) [] (He.ga K "_law_deck") fd__law_deck := F__law_deck
  have m__law_deck : mg "_law_deck" = some (.ref (He.ga K "_law_deck")) := He.glo_ok X G (c.fact 16 (f := .glo "_law_deck") rfl)
  obtain ⟨fd__law_draw, F__law_draw⟩ := c.def_ 17 (d := d__law_draw) rfl
  have F__law_draw : FnP K "_law_draw" (top 30) [] (He.ga K "_law_draw") fd__law_draw := F__law_draw
  have m__law_draw : mg "_law_draw" = some (.ref (He.ga K "_law_draw")) := He.glo_ok X G (c.fact 17 (f := .glo "_law_draw") rfl)
  obtain ⟨fd__law_pick, F__law_pick⟩ := c.def_ 18 (d := d__law_pick) rfl
  have F__law_pick : FnP K "_law_pick" (top 31) [] (He.ga K "_law_pick") fd__law_pick := F__law_pick
  have m__law_pick : mg "_law_pick" = some (.ref (He.ga K "_law_pick")) := He.glo_ok X G (c.fact 18 (f := .glo "_law_pick") rfl)
  obtain ⟨fd__law_common, F__law_common⟩ := c.def_ 19 (d := d__law_common) rfl
  have F__law_common : FnP K "_law_common" (top 32) [] (He.ga K "_law_common") fd__law_common := F__law_common
  have m__law_common : mg "_law_common" = some (.ref (He.ga K "_law_common")) := He.glo_ok X G (c.fact 19 (f := .glo "_law_common") rfl)
  obtain ⟨fd__law_pair, F__law_pair⟩ := c.def_ 20 (d := d__law_pair) rfl
  have F__law_pair : FnP K "_law_pair" (top 33) [] (He.ga K "_law_pair") fd__law_pair := F__law_pair
  have m__law_pair : mg "_law_pair" = some (.ref (He.ga K "_law_pair")) := He.glo_ok X G (c.fact 20 (f := .glo "_law_pair") rfl)
  obtain ⟨fd__law_is_whole, F__law_is_whole⟩ := c.def_ 21 (d := d__law_is_whole) rfl
  have F__law_is_whole : FnP K "_law_is_whole" (top 34) [] (He.ga K "_law_is_whole") fd__law_is_whole := F__law_is_whole
  have m__law_is_whole : mg "_law_is_whole" = some (.ref (He.ga K "_law_is_whole")) := He.glo_ok X G (c.fact 21 (f := .glo "_law_is_whole") rfl)
  obtain ⟨fd__law_named_verdict, F__law_named_verdict⟩ := c.def_ 22 (d := d__law_named_verdict) rfl
  have F__law_named_verdict : FnP K "_law_named_verdict" (top 35) [] (He.ga K "_law_named_verdict") fd__law_named_verdict := F__law_named_verdict
  have m__law_named_verdict : mg "_law_named_verdict" = some (.ref (He.ga K "_law_named_verdict")) := He.glo_ok X G (c.fact 22 (f := .glo "_law_named_verdict") rfl)
  obtain ⟨fd__law_parameter, F__law_parameter⟩ := c.def_ 23 (d := d__law_parameter) rfl
  have F__law_parameter : FnP K "_law_parameter" (top 36) [] (He.ga K "_law_parameter") fd__law_parameter := F__law_parameter
  have m__law_parameter : mg "_law_parameter" = some (.ref (He.ga K "_law_parameter")) := He.glo_ok X G (c.fact 23 (f := .glo "_law_parameter") rfl)
  obtain ⟨fd__law_near, F__law_near⟩ := c.def_ 24 (d := d__law_near) rfl
  have F__law_near : FnP K "_law_near" (top 37) [] (He.ga K "_law_near") fd__law_near := F__law_near
  have m__law_near : mg "_law_near" = some (.ref (He.ga K "_law_near")) := He.glo_ok X G (c.fact 24 (f := .glo "_law_near") rfl)
  obtain ⟨fd_law, F_law⟩ := c.def_ 25 (d := d_law) rfl
  have F_law : FnP K "law" (top 38) [] (He.ga K "law") fd_law := F_law
  have m_law : mg "law" = some (.ref (He.ga K "law")) := He.glo_ok X G (c.fact 25 (f := .glo "law") rfl)
  have n_abs : mg "abs" = none := He.free_ok X G (c.fact 26 (f := .free "abs") rfl)
  have n_bool : mg "bool" = none := He.free_ok X G (c.fact 27 (f := .free "bool") rfl)
  have n_int : mg "int" = none := He.free_ok X G (c.fact 28 (f := .free "int") rfl)
  have n_isinstance : mg "isinstance" = none := He.free_ok X G (c.fact 29 (f := .free "isinstance") rfl)
  have n_len : mg "len" = none := He.free_ok X G (c.fact 30 (f := .free "len") rfl)
  have n_list : mg "list" = none := He.free_ok X G (c.fact 31 (f := .free "list") rfl)
  have n_max : mg "max" = none := He.free_ok X G (c.fact 32 (f := .free "max") rfl)
  have n_range : mg "range" = none := He.free_ok X G (c.fact 33 (f := .free "range") rfl)
  have n_repr : mg "repr" = none := He.free_ok X G (c.fact 34 (f := .free "repr") rfl)
  have n_tuple : mg "tuple" = none := He.free_ok X G (c.fact 35 (f := .free "tuple") rfl)
  have ce0 : (bltB K "gcd" "math.gcd" && (conB K "FORMULA" (.str "formula") && (conB K "LAID" (.str "laid") && (conB K "MOST_BOTTOM" (.int 12) && (conB K "MOST_TOP" (.int 40) && conB K "NOTHING" (.str "nothing")))))) = true := ce
  obtain ⟨e_gcd, ce1⟩ := bltM ce0
  obtain ⟨e_FORMULA, ce2⟩ := bltM ce1
  obtain ⟨e_LAID, ce3⟩ := bltM ce2
  obtain ⟨e_MOST_BOTTOM, ce4⟩ := bltM ce3
  obtain ⟨e_MOST_TOP, ce5⟩ := bltM ce4
  have e_NOTHING := ce5
  have T : Txt K mg := ⟨n_abs, n_bool, n_int, n_isinstance, n_len, n_list, n_max, n_range, n_repr, n_tuple, bltB_ok X G e_gcd, conB_ok X G e_FORMULA (fun _ => .str _), conB_ok X G e_LAID (fun _ => .str _), conB_ok X G e_MOST_BOTTOM (fun _ => .int _), conB_ok X G e_MOST_TOP (fun _ => .int _), conB_ok X G e_NOTHING (fun _ => .str _)⟩
  cases hfa.symm.trans m_law
  have b := FunD.bindsA (ps := p_law) F_law fun _ _ _ _ _ _ us hl => match us, hl with | [_], _ => rfl
  refine ⟨fd_law, fun s v => b s [v] rfl, fun base _ _ => ?_⟩
  have C_is_whole : Cal_is_whole P w K mg base := ⟨⟨_, _, (ok_is_whole F_is_whole T ), m_is_whole, F_is_whole.kp, (all_1 (bs_0 (F_is_whole.bindsN fun _ _ _ _ _ _ us hl => match us, hl with | [_], _ => rfl)) all_0), all_0⟩⟩
  have C_is_pair_value : Cal_is_pair_value P w K mg base := ⟨⟨_, _, (ok_is_pair_value F_is_pair_value T C_is_whole), m_is_pair_value, F_is_pair_value.kp, (all_1 (bs_0 (F_is_pair_value.bindsN fun _ _ _ _ _ _ us hl => match us, hl with | [_], _ => rfl)) all_0), all_0⟩⟩
  have C_is_parameter : Cal_is_parameter P w K mg base := ⟨⟨_, _, (ok_is_parameter F_is_parameter T C_is_pair_value), m_is_parameter, F_is_parameter.kp, (all_1 (bs_0 (F_is_parameter.bindsN fun _ _ _ _ _ _ us hl => match us, hl with | [_], _ => rfl)) all_0), all_0⟩⟩
  have C_need_parameters : Cal_need_parameters P w K mg base := ⟨⟨_, _, (ok_need_parameters F_need_parameters T C_is_parameter), m_need_parameters, F_need_parameters.kp, (all_1 (bs_1 (FunD.binds1 (ps := p_need_parameters) F_need_parameters 2 1 (by simp) rfl fun _ _ _ _ _ _ _ us its h1 h2 => match us, its, h1, h2 with | [_, _], [_], _, _ => ⟨_, rfl, rfl⟩) (fun _ => .nil)) (all_1 (bs_1 (FunD.binds1 (ps := p_need_parameters) F_need_parameters 1 0 (by simp) rfl fun _ _ _ _ _ _ _ us its h1 h2 => match us, its, h1, h2 with | [_], [_], _, _ => ⟨_, rfl, rfl⟩) (fun _ => .cons (.non) (.nil))) all_0)), all_0⟩⟩
  have C_need_t : Cal_need_t P w K mg base := ⟨⟨_, _, (ok_need_t F_need_t T C_need_parameters), m_need_t, F_need_t.kp, (all_1 (bs_0 (F_need_t.bindsN fun _ _ _ _ _ _ us hl => match us, hl with | [_, _], _ => rfl)) all_0), all_0⟩⟩
  have C_total : Cal_total P w K mg base := ⟨⟨_, _, (ok_total F_total T ), m_total, F_total.kp, (all_1 (bs_0 (F_total.bindsN fun _ _ _ _ _ _ us hl => match us, hl with | [_], _ => rfl)) all_0), all_0⟩⟩
  have C_whole : Cal_whole P w K mg base := ⟨⟨_, _, (ok_whole F_whole T ), m_whole, F_whole.kp, (all_1 (bs_0 (F_whole.bindsN fun _ _ _ _ _ _ us hl => match us, hl with | [_], _ => rfl)) all_0), all_0⟩⟩
  have C_is_zero : Cal_is_zero P w K mg base := ⟨⟨_, _, (ok_is_zero F_is_zero T ), m_is_zero, F_is_zero.kp, (all_1 (bs_0 (F_is_zero.bindsN fun _ _ _ _ _ _ us hl => match us, hl with | [_], _ => rfl)) all_0), all_0⟩⟩
  have C_is_integer_pair : Cal_is_integer_pair P w K mg base := ⟨⟨_, _, (ok_is_integer_pair F_is_integer_pair T ), m_is_integer_pair, F_is_integer_pair.kp, (all_1 (bs_0 (F_is_integer_pair.bindsN fun _ _ _ _ _ _ us hl => match us, hl with | [_], _ => rfl)) all_0), all_0⟩⟩
  have C_steady_verdict : Cal_steady_verdict P w K mg base := ⟨⟨_, _, (ok_steady_verdict F_steady_verdict T C_need_t), m_steady_verdict, F_steady_verdict.kp, (all_1 (bs_0 (F_steady_verdict.bindsN fun _ _ _ _ _ _ us hl => match us, hl with | [_, _], _ => rfl)) all_0), (all_1 (kb_of (ps := p_steady_verdict) F_steady_verdict fun _ _ _ _ _ _ us ws h1 h2 => match us, ws, h1, h2 with | [], [_, _], _, _ => rfl) all_0)⟩⟩
  have C_hermite_verdict : Cal_hermite_verdict P w K mg base := ⟨⟨_, _, (ok_hermite_verdict F_hermite_verdict T C_is_zero C_need_parameters), m_hermite_verdict, F_hermite_verdict.kp, (all_1 (bs_0 (F_hermite_verdict.bindsN fun _ _ _ _ _ _ us hl => match us, hl with | [_, _], _ => rfl)) all_0), (all_1 (kb_of (ps := p_hermite_verdict) F_hermite_verdict fun _ _ _ _ _ _ us ws h1 h2 => match us, ws, h1, h2 with | [], [_, _], _, _ => rfl) all_0)⟩⟩
  have C_bessel_verdict : Cal_bessel_verdict P w K mg base := ⟨⟨_, _, (ok_bessel_verdict F_bessel_verdict T C_is_zero C_need_t), m_bessel_verdict, F_bessel_verdict.kp, (all_1 (bs_0 (F_bessel_verdict.bindsN fun _ _ _ _ _ _ us hl => match us, hl with | [_, _, _], _ => rfl)) all_0), (all_1 (kb_of (ps := p_bessel_verdict) F_bessel_verdict fun _ _ _ _ _ _ us ws h1 h2 => match us, ws, h1, h2 with | [], [_, _, _], _, _ => rfl) all_0)⟩⟩
  have C_gegenbauer_verdict : Cal_gegenbauer_verdict P w K mg base := ⟨⟨_, _, (ok_gegenbauer_verdict F_gegenbauer_verdict T C_is_integer_pair C_is_zero C_need_parameters), m_gegenbauer_verdict, F_gegenbauer_verdict.kp, (all_1 (bs_0 (F_gegenbauer_verdict.bindsN fun _ _ _ _ _ _ us hl => match us, hl with | [_, _], _ => rfl)) all_0), (all_1 (kb_of (ps := p_gegenbauer_verdict) F_gegenbauer_verdict fun _ _ _ _ _ _ us ws h1 h2 => match us, ws, h1, h2 with | [], [_, _], _, _ => rfl) all_0)⟩⟩
  have C_laguerre_verdict : Cal_laguerre_verdict P w K mg base := ⟨⟨_, _, (ok_laguerre_verdict F_laguerre_verdict T C_is_zero C_need_parameters), m_laguerre_verdict, F_laguerre_verdict.kp, (all_1 (bs_0 (F_laguerre_verdict.bindsN fun _ _ _ _ _ _ us hl => match us, hl with | [_, _], _ => rfl)) all_0), (all_1 (kb_of (ps := p_laguerre_verdict) F_laguerre_verdict fun _ _ _ _ _ _ us ws h1 h2 => match us, ws, h1, h2 with | [], [_, _], _, _ => rfl) all_0)⟩⟩
  have C_charlier_verdict : Cal_charlier_verdict P w K mg base := ⟨⟨_, _, (ok_charlier_verdict F_charlier_verdict T C_is_integer_pair C_need_t), m_charlier_verdict, F_charlier_verdict.kp, (all_1 (bs_0 (F_charlier_verdict.bindsN fun _ _ _ _ _ _ us hl => match us, hl with | [_, _], _ => rfl)) all_0), (all_1 (kb_of (ps := p_charlier_verdict) F_charlier_verdict fun _ _ _ _ _ _ us ws h1 h2 => match us, ws, h1, h2 with | [], [_, _], _, _ => rfl) all_0)⟩⟩
  have C_meixner_verdict : Cal_meixner_verdict P w K mg base := ⟨⟨_, _, (ok_meixner_verdict F_meixner_verdict T C_is_integer_pair C_need_t C_total C_whole), m_meixner_verdict, F_meixner_verdict.kp, (all_1 (bs_0 (F_meixner_verdict.bindsN fun _ _ _ _ _ _ us hl => match us, hl with | [_, _, _], _ => rfl)) all_0), (all_1 (kb_of (ps := p_meixner_verdict) F_meixner_verdict fun _ _ _ _ _ _ us ws h1 h2 => match us, ws, h1, h2 with | [], [_, _, _], _, _ => rfl) all_0)⟩⟩
  have C__law_deck : Cal__law_deck P w K mg base := ⟨⟨_, _, (ok_deck (k := 0) F__law_deck n_int n_list), m__law_deck, F__law_deck.kp, (all_1 (bs_0 (F__law_deck.bindsN fun _ _ _ _ _ _ us hl => match us, hl with | [_], _ => rfl)) all_0), all_0⟩⟩
  have C__law_draw : Cal__law_draw P w K mg base := ⟨⟨_, _, (ok_draw (k := 0) F__law_draw n_int n_max), m__law_draw, F__law_draw.kp, (all_1 (bs_0 (F__law_draw.bindsN fun _ _ _ _ _ _ us hl => match us, hl with | [_, _], _ => rfl)) all_0), all_0⟩⟩
  have C__law_pick : Cal__law_pick P w K mg base := ⟨⟨_, _, (ok__law_pick F__law_pick T C__law_draw), m__law_pick, F__law_pick.kp, (all_1 (bs_0 (F__law_pick.bindsN fun _ _ _ _ _ _ us hl => match us, hl with | [_, _], _ => rfl)) all_0), all_0⟩⟩
  have C__law_common : Cal__law_common P w K mg base := ⟨⟨_, _, (ok__law_common F__law_common T ), m__law_common, F__law_common.kp, (all_1 (bs_0 (F__law_common.bindsN fun _ _ _ _ _ _ us hl => match us, hl with | [_, _], _ => rfl)) all_0), all_0⟩⟩
  have C__law_pair : Cal__law_pair P w K mg base := ⟨⟨_, _, (ok__law_pair F__law_pair T C__law_common), m__law_pair, F__law_pair.kp, (all_1 (bs_0 (F__law_pair.bindsN fun _ _ _ _ _ _ us hl => match us, hl with | [_, _], _ => rfl)) all_0), all_0⟩⟩
  have C__law_is_whole : Cal__law_is_whole P w K mg base := ⟨⟨_, _, (ok__law_is_whole F__law_is_whole T ), m__law_is_whole, F__law_is_whole.kp, (all_1 (bs_0 (F__law_is_whole.bindsN fun _ _ _ _ _ _ us hl => match us, hl with | [_], _ => rfl)) all_0), all_0⟩⟩
  have C__law_named_verdict : Cal__law_named_verdict P w K mg base := ⟨⟨_, _, (ok__law_named_verdict F__law_named_verdict T C__law_is_whole), m__law_named_verdict, F__law_named_verdict.kp, (all_1 (bs_0 (F__law_named_verdict.bindsN fun _ _ _ _ _ _ us hl => match us, hl with | [_, _], _ => rfl)) all_0), all_0⟩⟩
  have C__law_parameter : Cal__law_parameter P w K mg base := ⟨⟨_, _, (ok__law_parameter F__law_parameter T C__law_draw C__law_pair C__law_pick), m__law_parameter, F__law_parameter.kp, (all_1 (bs_0 (F__law_parameter.bindsN fun _ _ _ _ _ _ us hl => match us, hl with | [_, _], _ => rfl)) all_0), all_0⟩⟩
  have C__law_near : Cal__law_near P w K mg base := ⟨⟨_, _, (ok__law_near F__law_near T C__law_pair C__law_pick), m__law_near, F__law_near.kp, (all_1 (bs_0 (F__law_near.bindsN fun _ _ _ _ _ _ us hl => match us, hl with | [_, _], _ => rfl)) all_0), all_0⟩⟩
  exact ok_law F_law T C__law_deck C__law_draw C__law_named_verdict C__law_near C__law_pair C__law_parameter C__law_pick C_bessel_verdict C_charlier_verdict C_gegenbauer_verdict C_hermite_verdict C_laguerre_verdict C_meixner_verdict C_steady_verdict G_law
end K54
open PySem PySem.W PySem.Calls PyProof.Rows
theorem PySem.Challenge.cw_twicestep_k54_verdicts_of_named_rules_holds : PySem.Challenge.rw_twicestep_k54_verdicts_of_named_rules.Holds := by
  w_on; o_law
  refine HandSHeadRun.head_imp (r := OpenLaw.row PySem.Challenge.rw_twicestep_k54_verdicts_of_named_rules) (q := view (OpenLaw.row PySem.Challenge.rw_twicestep_k54_verdicts_of_named_rules).prog [0, 38]) (H := K54.hk) (ob := K54.ob) (M := 6000) (loose := K54.names) (d := HandSHeadRun.topDef (OpenLaw.row PySem.Challenge.rw_twicestep_k54_verdicts_of_named_rules).prog 38) (kwd := []) K54.ob_eq
    K54.run (by kernel_rfl) (by kernel_rfl) (by kernel_rfl) (by rfl) (by first | assumption | decide +kernel) (by decide +kernel) ⟨rfl, rfl, rfl, rfl, rfl, by decide +kernel⟩ ?hw ?hc
  case hw => w_witness2
  case hc =>
    refine DL.walk_facts (l := PySem.Challenge.rw_twicestep_k54_verdicts_of_named_rules) (n := 63) (k := 7) (x := "script") rfl (by decide) (by kernel_rfl) ⟨rfl, by decide, by decide⟩ ?F
    intro w mg fa h Y G hmg0
    obtain ⟨K, KX, c, ce⟩ := Y
    have hmg : mg ("law" : PySem.Str) = some (.ref fa) := by
      have e : (HandSHeadRun.topDef (OpenLaw.row PySem.Challenge.rw_twicestep_k54_verdicts_of_named_rules).prog 38).name = ("law" : PySem.Str) := by kernel_rfl
      rw [← e]
      exact hmg0
    obtain ⟨fd, hb, hF⟩ := K54.facts (P := (PySem.Challenge.rw_twicestep_k54_verdicts_of_named_rules).prog) (w := w) KX G hmg c ce
    exact ⟨K, fd, KX, hb, hF⟩
