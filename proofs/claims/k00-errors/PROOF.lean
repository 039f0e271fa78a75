import PyProof.Rows.All
import Wide.All
import OpenK.AllK
import Wide.FinOn
import HandS.ForMost
import HandS.Wide
import HandS.Gcd
import HandS.Flow
import HandS.IsInst
import HandS.ExcInit
import HandS.HeadHook1
import HandS.TupAny
import HandS.TupMul
import HandS.Deep
import HandS.Style
import HandS.RaiseMore
import HandS.Defaults
import HandS.EndBits
import KE.KStateDown
import HandS.Head0
import HandS.Head1
import HandS.Head2
import HandS.Head3
import HandS.HeadHook2
import HandS.Comp
import HandS.Iter
import HandS.Zip
import HandS.RevTup
import KE.GoesMore
import KE.GoesEnum
import HandS.Flt
import HandS.TryOnly
import KE.KExcInit
import HandS.ExcField
import HandS.TryMany
import KE.KExcIs
import HandS.More
import Open.Pieces
import PyProof.EqAt
import HandS.HotCalls
import HandS.Conv
import HandS.TupSets
import HandS.SortOrd
import HandS.MakeKw
import PySem.Challenge.RW_twicestep_k00_errors_by_position_and_by
set_option Elab.async false
set_option linter.all false
set_option maxRecDepth 100000
set_option maxHeartbeats 4000000
/-! DL1: data without a heap, what stands for it, the frame of a deed, the readings of expressions and statements over data. -/
namespace DL
open PySem L2

/-- data: tuples and lists by value; ref: a thing known by its address alone -/
inductive D where
  | non | bl (b : Bool) | int (i : Int) | str (s : Str) | tup (xs : List D) | lst (xs : List D) | ref (a : Addr) | dic (ks : List Key) (vs : List D)
  | dtu (ks : List (List Key)) (vs : List D)
  | err (n : Str) (d : D)
  | diz (ks : List Key) (vs : List D)

/-- a tuple of ours, or a constant one -/
def TupD (K : PySem.W.Frag) (F : Hp) (a : Addr) (xs : List V) : Prop := F a = some (.tup xs) ∨
  (xs.length ≠ 2 ∧ ∃ (o : Obj) (its : Array Value) (n : Nat), K.lookup a = some o ∧ o.cls = .type "tuple" ∧ o.data = .seq its n ∧ its.size ≤ sizeLine ∧ Vals xs its.toList)
theorem TupD.sqT {K : PySem.W.Frag} {F : Hp} {a : Addr} {xs : List V} (h : TupD K F a xs) : SqT K F a xs := by
  rcases h with h | ⟨_, h⟩
  · exact .inl (.inl h)
  · exact .inr h
/-- a pair is never a constant -/
theorem TupD.pair {K : PySem.W.Frag} {F : Hp} {a : Addr} {x y : V} (h : TupD K F a [x, y]) : F a = some (.tup [x, y]) := by
  rcases h with h | ⟨h, _⟩
  · exact h
  · exact absurd rfl h
mutual
inductive Is (K : PySem.W.Frag) (F : Hp) : V → D → Prop
  | non : Is K F .non .non
  | bl (b : Bool) : Is K F (.bl b) (.bl b)
  | int (i : Int) : Is K F (.int i) (.int i)
  | str (x : Str) : Is K F (.str x) (.str x)
  | ref (a : Addr) : Is K F (.ref a) (.ref a)
  | tup {a : Addr} {xs : List V} {ds : List D} : TupD K F a xs → IsAll K F xs ds → Is K F (.ref a) (.tup ds)
  | lst {a : Addr} {xs : List V} {ds : List D} : F a = some (.lst xs) → IsAll K F xs ds → Is K F (.ref a) (.lst ds)
  | dic {a : Addr} {ks : List Key} {xs : List V} {ds : List D} : F a = some (.dK (ks.zip xs)) → ks.length = xs.length → IsAll K F xs ds → Is K F (.ref a) (.dic ks ds)
  | dtu {a : Addr} {ks : List (List Key)} {xs : List V} {ds : List D} : F a = some (.dT (ks.zip xs)) → ks.length = xs.length → IsAll K F xs ds → Is K F (.ref a) (.dtu ks ds)
  | err {a dx : Addr} {n : Str} {w : V} {d : D} : F a = some (exo a (He.ga K n) (some dx)) → F dx = some (exd dx [("thing", w)]) → Is K F w d → Is K F (.ref a) (.err n d)
  | diz {a : Addr} {o : Obj} {ks : List Key} {xs : List V} {ds : List D} : F a = some (.frz o (.dK (ks.zip xs))) → ks.length = xs.length → IsAll K F xs ds → Is K F (.ref a) (.diz ks ds)
inductive IsAll (K : PySem.W.Frag) (F : Hp) : List V → List D → Prop
  | nil : IsAll K F [] []
  | cons {v : V} {vs : List V} {d : D} {ds : List D} : Is K F v d → IsAll K F vs ds → IsAll K F (v :: vs) (d :: ds)
end

def Ex (H H' : Hp) : Prop := ∀ a o, H a = some o → H' a = some o
theorem Ex.refl (H : Hp) : Ex H H := fun _ _ h => h
theorem Ex.trans {H H1 H2 : Hp} (a : Ex H H1) (b : Ex H1 H2) : Ex H H2 := fun x o h => b x o (a x o h)
theorem Ex.sqL {K : PySem.W.Frag} {H H' : Hp} {a : Addr} {xs : List V} (e : Ex H H') (h : SqL K H a xs) : SqL K H' a xs := by
  rcases h with (h | ⟨o, h⟩) | h
  · exact .inl (.inl (e _ _ h))
  · exact .inl (.inr ⟨o, e _ _ h⟩)
  · exact .inr h
theorem Ex.tupD {K : PySem.W.Frag} {H H' : Hp} {a : Addr} {xs : List V} (e : Ex H H') (h : TupD K H a xs) : TupD K H' a xs := by
  rcases h with h | h
  · exact .inl (e _ _ h)
  · exact .inr h
theorem Ex.sqT {K : PySem.W.Frag} {H H' : Hp} {a : Addr} {xs : List V} (e : Ex H H') (h : SqT K H a xs) : SqT K H' a xs := by
  rcases h with (h | ⟨o, h⟩) | h
  · exact .inl (.inl (e _ _ h))
  · exact .inl (.inr ⟨o, e _ _ h⟩)
  · exact .inr h
section
variable {K : PySem.W.Frag} {F F' : Hp}
mutual
theorem Is.mono (e : Ex F F') : ∀ (d : D) (v : V), Is K F v d → Is K F' v d
  | .non, _, h => by cases h; exact .non
  | .bl b, _, h => by cases h; exact .bl b
  | .int i, _, h => by cases h; exact .int i
  | .str x, _, h => by cases h; exact .str x
  | .ref a, _, h => by cases h; exact .ref a
  | .tup ds, _, h => by
    cases h with
    | tup h1 h2 => exact .tup (e.tupD h1) (IsAll.mono e ds _ h2)
  | .lst ds, _, h => by
    cases h with
    | lst h1 h2 => exact .lst (e _ _ h1) (IsAll.mono e ds _ h2)
  | .dic ks ds, _, h => by
    cases h with
    | dic h1 h0 h2 => exact .dic (e _ _ h1) h0 (IsAll.mono e ds _ h2)
  | .dtu ks ds, _, h => by
    cases h with
    | dtu h1 h0 h2 => exact .dtu (e _ _ h1) h0 (IsAll.mono e ds _ h2)
  | .err n d, _, h => by
    cases h with
    | err h1 h2 h3 => exact .err (e _ _ h1) (e _ _ h2) (Is.mono e d _ h3)
  | .diz ks ds, _, h => by
    cases h with
    | diz h1 h0 h2 => exact .diz (e _ _ h1) h0 (IsAll.mono e ds _ h2)
theorem IsAll.mono (e : Ex F F') : ∀ (ds : List D) (vs : List V), IsAll K F vs ds → IsAll K F' vs ds
  | [], _, h => by cases h; exact .nil
  | d :: ds, _, h => by
    cases h with
    | cons h1 h2 => exact .cons (Is.mono e d _ h1) (IsAll.mono e ds _ h2)
end
theorem Is.up {v : V} {d : D} (h : Is K F v d) (e : Ex F F') : Is K F' v d := Is.mono e d v h
theorem IsAll.up {vs : List V} {ds : List D} (h : IsAll K F vs ds) (e : Ex F F') : IsAll K F' vs ds := IsAll.mono e ds vs h
theorem IsAll.length {vs : List V} {ds : List D} (h : IsAll K F vs ds) : vs.length = ds.length := by
  induction ds generalizing vs with
  | nil => cases h; rfl
  | cons d ds ih => cases h with | cons h1 h2 => rw [List.length_cons, List.length_cons, ih h2]
theorem IsAll.get {vs : List V} {ds : List D} (h : IsAll K F vs ds) : ∀ {i : Nat} {d : D}, ds[i]? = some d → ∃ v, vs[i]? = some v ∧ Is K F v d := by
  induction ds generalizing vs with
  | nil => intro i d e; simp at e
  | cons d ds ih =>
    cases h with
    | cons h1 h2 =>
      intro i d' e
      cases i with
      | zero =>
        rw [List.getElem?_cons_zero] at e
        cases e
        exact ⟨_, rfl, h1⟩
      | succ i =>
        rw [List.getElem?_cons_succ] at e
        obtain ⟨v, e1, e2⟩ := ih h2 e
        exact ⟨v, by rw [List.getElem?_cons_succ]; exact e1, e2⟩
theorem IsAll.getV {vs : List V} {ds : List D} (h : IsAll K F vs ds) {i : Nat} {v : V} (e : vs[i]? = some v) : ∃ d, ds[i]? = some d ∧ Is K F v d := by
  have hl := h.length
  have hi := (List.getElem?_eq_some_iff.mp e).1
  obtain ⟨w, e1, e2⟩ := h.get (List.getElem?_eq_getElem (show i < ds.length by omega))
  rw [e] at e1
  cases e1
  exact ⟨_, List.getElem?_eq_getElem (show i < ds.length by omega), e2⟩
theorem IsAll.append {vs ws : List V} {ds es : List D} (h : IsAll K F vs ds) (h' : IsAll K F ws es) : IsAll K F (vs ++ ws) (ds ++ es) := by
  induction ds generalizing vs with
  | nil => cases h; exact h'
  | cons d ds ih => cases h with | cons h1 h2 => exact .cons h1 (ih h2)
theorem IsAll.drop {vs : List V} {ds : List D} (h : IsAll K F vs ds) : ∀ n : Nat, IsAll K F (vs.drop n) (ds.drop n) := by
  induction ds generalizing vs with
  | nil => cases h; intro n; simp; exact .nil
  | cons d ds ih =>
    cases h with
    | cons h1 h2 =>
      intro n
      cases n with
      | zero => exact .cons h1 h2
      | succ n => exact ih h2 n
theorem IsAll.take {vs : List V} {ds : List D} (h : IsAll K F vs ds) : ∀ n : Nat, IsAll K F (vs.take n) (ds.take n) := by
  induction ds generalizing vs with
  | nil => cases h; intro n; simp; exact .nil
  | cons d ds ih =>
    cases h with
    | cons h1 h2 =>
      intro n
      cases n with
      | zero => exact .nil
      | succ n => exact .cons h1 (ih h2 n)
theorem IsAll.set {vs : List V} {ds : List D} (h : IsAll K F vs ds) {v : V} {d : D} (hd : Is K F v d) : ∀ i : Nat, IsAll K F (vs.set i v) (ds.set i d) := by
  induction ds generalizing vs with
  | nil => cases h; intro i; exact .nil
  | cons d ds ih =>
    cases h with
    | cons h1 h2 =>
      intro i
      cases i with
      | zero => exact .cons hd h2
      | succ i => exact .cons h1 (ih h2 i)
theorem IsAll.reverse {vs : List V} {ds : List D} (h : IsAll K F vs ds) : IsAll K F vs.reverse ds.reverse := by
  induction ds generalizing vs with
  | nil => cases h; exact .nil
  | cons d ds ih =>
    cases h with
    | cons h1 h2 =>
      rw [List.reverse_cons, List.reverse_cons]
      exact (ih h2).append (.cons h1 .nil)
theorem IsAll.replicate {v : V} {d : D} (h : Is K F v d) : ∀ n : Nat, IsAll K F (List.replicate n v) (List.replicate n d)
  | 0 => .nil
  | n + 1 => .cons h (IsAll.replicate h n)
theorem IsAll.ints : ∀ ns : List Int, IsAll K F (ns.map V.int) (ns.map D.int)
  | [] => .nil
  | n :: ns => .cons (.int n) (IsAll.ints ns)
end

/-! ### the frame of a deed -/
/-- the deck, if one stands: the name of its list, its dict's address, its list's -/
abbrev Gd := Option (Str × Addr × Addr)
def Gd.M : Gd → Addr → Prop
  | none, _ => False
  | some (_, d, l), a => a = d ∨ a = l
def DeckAt (nm : Str) (d l : Addr) (H : Hp) : Prop :=
  ∃ (cs : List Int) (mixed draws : Int), H d = some (.dK [(.inr nm, .ref l), (.inr "mixed", .int mixed), (.inr "draws", .int draws)]) ∧ H l = some (.lst (cs.map V.int)) ∧ cs.length ≤ 63 ∧ (-(2 ^ 40) < mixed ∧ mixed < 2 ^ 40) ∧ d ≠ l
def Gd.J : Gd → Hp → Prop
  | none, _ => True
  | some (nm, d, l), H => DeckAt nm d l H
theorem Gd.J.loc {g : Gd} {H H' : Hp} (h : ∀ a, g.M a → H' a = H a) (j : g.J H) : g.J H' := by
  cases g with
  | none => trivial
  | some t =>
    obtain ⟨nm, d, l⟩ := t
    obtain ⟨cs, mi, dr, h1, h2, h3, h4, h5⟩ := j
    exact ⟨cs, mi, dr, (h d (.inl rfl)).trans h1, (h l (.inr rfl)).trans h2, h3, h4, h5⟩
theorem Gd.J.has {g : Gd} {H : Hp} (j : g.J H) {a : Addr} (m : g.M a) : H a ≠ none := by
  cases g with
  | none => exact m.elim
  | some t =>
    obtain ⟨nm, d, l⟩ := t
    obtain ⟨cs, mi, dr, h1, h2, h3, h4⟩ := j
    rcases m with rfl | rfl
    · rw [h1]; exact fun z => by cases z
    · rw [h2]; exact fun z => by cases z

/-- from (H0, F0) to (H, F): H the heap, F the part of it that nobody writes any more -/
structure Fr (g : Gd) (H0 F0 H F : Hp) : Prop where
  pre : ∀ a o, ¬ g.M a → H0 a = some o → H a = some o
  j : g.J H
  sub : Ex F H
  f0 : Ex F0 F
  old : ∀ a, H0 a ≠ none → F a = F0 a
  nm : ∀ a, g.M a → F a = none ∧ H0 a ≠ none
  tp : ∀ a xs, H a = some (.tup xs) → F a = some (.tup xs)
section
variable {g : Gd} {H0 F0 H F H1 F1 : Hp}
theorem Fr.there (r : Fr g H0 F0 H F) {a : Addr} (h : H0 a ≠ none) : H a ≠ none := by
  by_cases hm : g.M a
  · exact r.j.has hm
  · cases e : H0 a with
    | none => exact absurd e h
    | some o => rw [r.pre a o hm e]; exact fun z => by cases z
theorem Fr.back (r : Fr g H0 F0 H F) {a : Addr} (h : H a = none) : H0 a = none := by
  cases e : H0 a with
  | none => rfl
  | some o => exact absurd h (r.there (by rw [e]; exact fun z => by cases z))
theorem Fr.self (r : Fr g H0 F0 H F) : Fr g H F H F :=
  ⟨fun _ _ _ h => h, r.j, r.sub, Ex.refl _, fun _ _ => rfl, fun a m => ⟨(r.nm a m).1, r.j.has m⟩, r.tp⟩
theorem Fr.trans (r : Fr g H0 F0 H F) (q : Fr g H F H1 F1) : Fr g H0 F0 H1 F1 :=
  ⟨fun a o m h => q.pre a o m (r.pre a o m h), q.j, q.sub, r.f0.trans q.f0, fun a h => (q.old a (r.there h)).trans (r.old a h), fun a m => ⟨(q.nm a m).1, (r.nm a m).2⟩, q.tp⟩
/-- a callee that does not touch the deck -/
theorem Fr.lift (r : Fr g H0 F0 H F) (q : Fr none H F H1 F1) : Fr g H F H1 F1 :=
  ⟨fun a o _ h => q.pre a o (fun z => z) h, r.j.loc (fun a m => by
    cases e : H a with
    | none => exact absurd e (r.j.has m)
    | some o => exact q.pre a o (fun z => z) e), q.sub, q.f0, q.old, fun a m => ⟨by rw [q.old a (r.j.has m)]; exact (r.nm a m).1, r.j.has m⟩, q.tp⟩
/-- without the deck -/
theorem Fr.bare (r : Fr g H0 F0 H F) : Fr none H F H F := ⟨fun _ _ _ h => h, trivial, r.sub, Ex.refl _, fun _ _ => rfl, fun _ m => m.elim, r.tp⟩
theorem Fr.freeF (r : Fr g H0 F0 H F) {p : Addr} (h : H p = none) : F p = none := by
  cases e : F p with
  | none => rfl
  | some o => rw [r.sub p o e] at h; cases h
theorem Fr.freeM (r : Fr g H0 F0 H F) {p : Addr} (h : H p = none) : ¬ g.M p := fun m => r.j.has m h
/-- a new object, frozen -/
theorem Fr.new (r : Fr g H0 F0 H F) {p : Addr} {o : HO} (h : H p = none) : Fr g H F (upd H p o) (upd F p o) := by
  have hF := r.freeF h
  have hM := r.freeM h
  refine ⟨fun a u _ e => by rw [upd_ne (ne_of_none e h)]; exact e, r.j.loc fun a m => upd_ne (fun z => hM (by rw [← z]; exact m)), fun a u e => ?_, fun a u e => by rw [upd_ne (ne_of_none e hF)]; exact e, fun a e => upd_ne (fun z => e (by rw [z]; exact h)), fun a m => ⟨?_, r.j.has m⟩, fun a u e => ?_⟩
  · by_cases q : a = p
    · subst q; rw [upd_same] at e ⊢; exact e
    · rw [upd_ne q] at e ⊢; exact r.sub a u e
  · rw [upd_ne (fun z => hM (by rw [← z]; exact m))]; exact (r.nm a m).1
  · by_cases q : a = p
    · subst q; rw [upd_same] at e ⊢; exact e
    · rw [upd_ne q] at e ⊢; exact r.tp a u e
/-- a new object, held by a name of ours -/
theorem Fr.newO (r : Fr g H0 F0 H F) {p : Addr} {o : HO} (h : H p = none) (ho : ∀ xs, o ≠ .tup xs := by intro _ z; cases z) : Fr g H F (upd H p o) F := by
  have hM := r.freeM h
  refine ⟨fun a u _ e => by rw [upd_ne (ne_of_none e h)]; exact e, r.j.loc fun a m => upd_ne (fun z => hM (by rw [← z]; exact m)), fun a u e => ?_, Ex.refl _, fun a e => rfl, fun a m => ⟨(r.nm a m).1, r.j.has m⟩, fun a u e => ?_⟩
  · have := r.sub a u e
    rw [upd_ne (ne_of_none this h)]; exact this
  · by_cases q : a = p
    · subst q; rw [upd_same] at e; cases e; exact absurd rfl (ho u)
    · rw [upd_ne q] at e; exact r.tp a u e
/-- an object of ours is frozen -/
theorem Fr.freeze (r : Fr g H0 F0 H F) {p : Addr} {o : HO} (h : H p = some o) (h0 : H0 p = none) (hF : F p = none) : Fr g H0 F0 H (upd F p o) := by
  have hM : ¬ g.M p := fun m => (r.nm p m).2 h0
  refine ⟨r.pre, r.j, fun a u e => ?_, fun a u e => by rw [upd_ne (ne_of_none (r.f0 a u e) hF)]; exact r.f0 a u e, fun a e => by rw [upd_ne (fun z => e (by rw [z]; exact h0))]; exact r.old a e, fun a m => ⟨by rw [upd_ne (fun z => hM (by rw [← z]; exact m))]; exact (r.nm a m).1, (r.nm a m).2⟩, fun a u e => ?_⟩
  · by_cases q : a = p
    · subst q; rw [upd_same] at e; cases e; exact h
    · rw [upd_ne q] at e; exact r.sub a u e
  · by_cases q : a = p
    · subst q; rw [upd_same]; exact h.symm.trans e
    · rw [upd_ne q]; exact r.tp a u e
/-- an object of ours is written -/
theorem Fr.write (r : Fr g H0 F0 H F) {p : Addr} {o : HO} (h0 : H0 p = none) (hF : F p = none) (ho : ∀ xs, o ≠ .tup xs := by intro _ z; cases z) : Fr g H0 F0 (upd H p o) F := by
  have hM : ¬ g.M p := fun m => (r.nm p m).2 h0
  refine ⟨fun a u m e => by rw [upd_ne (ne_of_none e h0)]; exact r.pre a u m e, r.j.loc fun a m => upd_ne (fun z => hM (by rw [← z]; exact m)), fun a u e => ?_, r.f0, r.old, r.nm, fun a u e => ?_⟩
  · rw [upd_ne (ne_of_none e hF)]; exact r.sub a u e
  · by_cases q : a = p
    · subst q; rw [upd_same] at e; cases e; exact absurd rfl (ho u)
    · rw [upd_ne q] at e; exact r.tp a u e
end
theorem upd_ex {F : Hp} {p : Addr} {o : HO} (h : F p = none) : Ex F (upd F p o) := fun a u e => by rw [upd_ne (ne_of_none e h)]; exact e

/-- what of ours may be changed: a list, a dict whose keys are tuples -/
inductive Own (K : PySem.W.Frag) (F : Hp) : HO → D → Prop
  | lst {vs : List V} {xs : List D} : IsAll K F vs xs → Own K F (.lst vs) (.lst xs)
  | dtu {ks : List (List Key)} {vs : List V} {xs : List D} : ks.length = vs.length → IsAll K F vs xs → Own K F (.dT (ks.zip vs)) (.dtu ks xs)
theorem Own.up {K : PySem.W.Frag} {F F' : Hp} {o : HO} {d : D} (h : Own K F o d) (e : Ex F F') : Own K F' o d := by
  cases h with
  | lst h => exact .lst (h.up e)
  | dtu h0 h => exact .dtu h0 (h.up e)
theorem Own.is {K : PySem.W.Frag} {F : Hp} {o : HO} {d : D} {p : Addr} (h : Own K F o d) (e : F p = some o) : Is K F (.ref p) d := by
  cases h with
  | lst h => exact .lst e h
  | dtu h0 h => exact .dtu e h0 h
theorem Own.noTup {K : PySem.W.Frag} {F : Hp} {o : HO} {d : D} (h : Own K F o d) : ∀ xs, o ≠ .tup xs := by
  intro xs z
  cases h <;> cases z
/-! ### slots and data -/
abbrev Ro := List (Option D)
structure Rel (K : PySem.W.Frag) (g : Gd) (H0 F0 : Hp) (m : List Nat) (σ : L2.St) (H F : Hp) (ρ : Ro) : Prop where
  fr : Fr g H0 F0 H F
  len : σ.length = ρ.length
  vals : ∀ i d, ρ[i]? = some (some d) → i ∉ m → ∃ v, σ[i]? = some (some v) ∧ Is K F v d
  own : ∃ oa : Nat → Addr, (∀ i ∈ m, ∃ o d, σ[i]? = some (some (.ref (oa i))) ∧ ρ[i]? = some (some d) ∧ H (oa i) = some o ∧ Own K F o d ∧ F (oa i) = none ∧ H0 (oa i) = none) ∧ ∀ i ∈ m, ∀ j ∈ m, oa i = oa j → i = j
section
variable {K : PySem.W.Frag} {g : Gd} {H0 F0 H F H1 F1 : Hp} {m : List Nat} {σ : L2.St} {ρ : Ro}
/-- behind a deed that leaves our names and lists alone -/
theorem Rel.step (r : Rel K g H0 F0 m σ H F ρ) (q : Fr g H F H1 F1) : Rel K g H0 F0 m σ H1 F1 ρ := by
  refine ⟨r.fr.trans q, r.len, fun i d h1 h2 => ?_, ?_⟩
  · obtain ⟨v, e, h⟩ := r.vals i d h1 h2
    exact ⟨v, e, h.up q.f0⟩
  · obtain ⟨oa, h1, h2⟩ := r.own
    refine ⟨oa, fun i hi => ?_, h2⟩
    obtain ⟨vs, xs, e1, e2, e3, e4, e5, e6⟩ := h1 i hi
    have nM : ¬ g.M (oa i) := fun z => (r.fr.nm _ z).2 e6
    exact ⟨vs, xs, e1, e2, q.pre _ _ nM e3, e4.up q.f0, by rw [q.old _ (by rw [e3]; exact fun z => by cases z)]; exact e5, e6⟩
theorem Rel.val (r : Rel K g H0 F0 m σ H F ρ) {i : Nat} {d : D} (h : ρ[i]? = some (some d)) (hi : i ∉ m) : ∃ v, σ[i]? = some (some v) ∧ Is K F v d := r.vals i d h hi
/-- slots forgotten -/
theorem set_get {α : Type} {l : List α} {i j : Nat} {x y : α} (h : (l.set i x)[j]? = some y) : (j = i ∧ y = x) ∨ (j ≠ i ∧ l[j]? = some y) := by
  by_cases e : i = j
  · subst e
    have hl : i < l.length := by have := (List.getElem?_eq_some_iff.mp h).1; rwa [List.length_set] at this
    rw [List.getElem?_set_self hl] at h
    exact .inl ⟨rfl, (Option.some.inj h).symm⟩
  · rw [List.getElem?_set_ne e] at h
    exact .inr ⟨fun z => e z.symm, h⟩
/-- a name is given data -/
theorem Rel.set (r : Rel K g H0 F0 m σ H F ρ) {i : Nat} {v : V} {d : D} (h : Is K F v d) (hi : i < ρ.length) : Rel K g H0 F0 (m.filter (· ≠ i)) (σ.set i (some v)) H F (ρ.set i (some d)) := by
  refine ⟨r.fr, by rw [List.length_set, List.length_set]; exact r.len, fun j d' h1 h2 => ?_, ?_⟩
  · rcases set_get h1 with ⟨rfl, e⟩ | ⟨hj, e⟩
    · cases e
      exact ⟨v, List.getElem?_set_self (by rw [r.len]; exact hi), h⟩
    · have hm : j ∉ m := fun z => h2 (List.mem_filter.mpr ⟨z, by simpa using hj⟩)
      obtain ⟨w, e1, e2⟩ := r.vals j d' e hm
      exact ⟨w, by rw [List.getElem?_set_ne (Ne.symm hj)]; exact e1, e2⟩
  · obtain ⟨oa, h1, h2⟩ := r.own
    refine ⟨oa, fun j hj => ?_, fun a ha b hb => h2 a (List.mem_filter.mp ha).1 b (List.mem_filter.mp hb).1⟩
    obtain ⟨hj1, hj2⟩ := List.mem_filter.mp hj
    have hj2 : j ≠ i := by simpa using hj2
    obtain ⟨vs, xs, e1, e2, e3⟩ := h1 j hj1
    exact ⟨vs, xs, by rw [List.getElem?_set_ne (Ne.symm hj2)]; exact e1, by rw [List.getElem?_set_ne (Ne.symm hj2)]; exact e2, e3⟩
/-- a name is given a new list or dict of ours -/
theorem Rel.setW (r : Rel K g H0 F0 m σ H F ρ) {i : Nat} {p : Addr} {vs : HO} {xs : D} (hi : i < ρ.length) (hp : H p = some vs) (hF : F p = none) (h0 : H0 p = none) (ha : Own K F vs xs)
    (hn : ∀ j v, σ[j]? = some (some v) → j ∈ m → v ≠ .ref p) : Rel K g H0 F0 (i :: m.filter (· ≠ i)) (σ.set i (some (.ref p))) H F (ρ.set i (some xs)) := by
  refine ⟨r.fr, by rw [List.length_set, List.length_set]; exact r.len, fun j d' h1 h2 => ?_, ?_⟩
  · rcases set_get h1 with ⟨rfl, e⟩ | ⟨hj, e⟩
    · exact absurd List.mem_cons_self h2
    · have hm : j ∉ m := fun z => h2 (List.mem_cons_of_mem _ (List.mem_filter.mpr ⟨z, by simpa using hj⟩))
      obtain ⟨w, e1, e2⟩ := r.vals j d' e hm
      exact ⟨w, by rw [List.getElem?_set_ne (Ne.symm hj)]; exact e1, e2⟩
  · obtain ⟨oa, h1, h2⟩ := r.own
    have old : ∀ j ∈ m.filter (· ≠ i), j ∈ m ∧ j ≠ i := fun j hj => ⟨(List.mem_filter.mp hj).1, by simpa using (List.mem_filter.mp hj).2⟩
    have ne : ∀ j ∈ m, oa j ≠ p := fun j hj z => by
      obtain ⟨_, _, e1, _⟩ := h1 j hj
      exact hn j _ e1 hj (by rw [z])
    have o1 : (fun j => if j = i then p else oa j) i = p := if_pos rfl
    have o2 : ∀ j, j ≠ i → (fun j => if j = i then p else oa j) j = oa j := fun j h => if_neg h
    generalize (fun j => if j = i then p else oa j) = ob at o1 o2
    refine ⟨ob, fun j hj => ?_, fun a ha' b hb' e => ?_⟩
    · rcases List.mem_cons.mp hj with rfl | hj
      · rw [o1]
        exact ⟨vs, xs, List.getElem?_set_self (by rw [r.len]; exact hi), List.getElem?_set_self hi, hp, ha, hF, h0⟩
      · obtain ⟨hj1, hj2⟩ := old j hj
        rw [o2 j hj2]
        obtain ⟨vs', xs', e1, e2, e3⟩ := h1 j hj1
        exact ⟨vs', xs', by rw [List.getElem?_set_ne (Ne.symm hj2)]; exact e1, by rw [List.getElem?_set_ne (Ne.symm hj2)]; exact e2, e3⟩
    · rcases List.mem_cons.mp ha' with rfl | ha'
      · rcases List.mem_cons.mp hb' with rfl | hb'
        · rfl
        · obtain ⟨hb1, hb2⟩ := old b hb'
          rw [o1, o2 b hb2] at e
          exact absurd e.symm (ne b hb1)
      · obtain ⟨ha1, ha2⟩ := old a ha'
        rcases List.mem_cons.mp hb' with rfl | hb'
        · rw [o2 a ha2, o1] at e
          exact absurd e (ne a ha1)
        · obtain ⟨hb1, hb2⟩ := old b hb'
          rw [o2 a ha2, o2 b hb2] at e
          exact h2 a ha1 b hb1 e
theorem Rel.setO (r : Rel K g H0 F0 m σ H F ρ) {i : Nat} {p : Addr} {vs : List V} {xs : List D} (hi : i < ρ.length) (hp : H p = some (.lst vs)) (hF : F p = none) (h0 : H0 p = none) (ha : IsAll K F vs xs)
    (hn : ∀ j v, σ[j]? = some (some v) → j ∈ m → v ≠ .ref p) : Rel K g H0 F0 (i :: m.filter (· ≠ i)) (σ.set i (some (.ref p))) H F (ρ.set i (some (.lst xs))) := r.setW hi hp hF h0 (.lst ha) hn
/-- a list of ours is frozen -/
theorem Rel.freeze1 (r : Rel K g H0 F0 m σ H F ρ) (i : Nat) : ∃ F', Rel K g H0 F0 (m.filter (· ≠ i)) σ H F' ρ ∧ Ex F F' := by
  by_cases hi : i ∈ m
  · obtain ⟨oa, h1, h2⟩ := r.own
    obtain ⟨vs, xs, e1, e2, e3, e4, e5, e6⟩ := h1 i hi
    have ex : Ex F (upd F (oa i) vs) := upd_ex e5
    refine ⟨upd F (oa i) vs, ⟨r.fr.freeze e3 e6 e5, r.len, fun j d h3 h4 => ?_, oa, fun j hj => ?_, fun a ha b hb => h2 a (List.mem_filter.mp ha).1 b (List.mem_filter.mp hb).1⟩, ex⟩
    · by_cases hj : j = i
      · subst hj
        rw [e2] at h3
        cases h3
        exact ⟨_, e1, (e4.up ex).is upd_same⟩
      · have hm : j ∉ m := fun z => h4 (List.mem_filter.mpr ⟨z, by simpa using hj⟩)
        obtain ⟨v, q1, q2⟩ := r.vals j d h3 hm
        exact ⟨v, q1, q2.up ex⟩
    · obtain ⟨hj1, hj2⟩ := List.mem_filter.mp hj
      have hj2 : j ≠ i := by simpa using hj2
      obtain ⟨vs', xs', q1, q2, q3, q4, q5, q6⟩ := h1 j hj1
      have hne : oa j ≠ oa i := fun z => hj2 (h2 j hj1 i hi z)
      exact ⟨vs', xs', q1, q2, q3, q4.up ex, by rw [upd_ne hne]; exact q5, q6⟩
  · refine ⟨F, ?_, Ex.refl _⟩
    have e : m.filter (· ≠ i) = m := List.filter_eq_self.mpr fun a ha => by
      have : a ≠ i := fun z => hi (z ▸ ha)
      simpa using this
    rw [e]
    exact r
theorem Rel.congr {m' : List Nat} (r : Rel K g H0 F0 m σ H F ρ) (h : ∀ i, i ∈ m' ↔ i ∈ m) : Rel K g H0 F0 m' σ H F ρ := by
  refine ⟨r.fr, r.len, fun i d h1 h2 => r.vals i d h1 fun z => h2 ((h i).mpr z), ?_⟩
  obtain ⟨oa, h1, h2⟩ := r.own
  exact ⟨oa, fun i hi => h1 i ((h i).mp hi), fun a ha b hb => h2 a ((h a).mp ha) b ((h b).mp hb)⟩
theorem Rel.freezeAll (r : Rel K g H0 F0 m σ H F ρ) : ∀ l : List Nat, ∃ F', Rel K g H0 F0 (m.filter (· ∉ l)) σ H F' ρ ∧ Ex F F'
  | [] => ⟨F, r.congr fun i => by simp, Ex.refl _⟩
  | i :: l => by
    obtain ⟨F1, r1, x1⟩ := Rel.freezeAll r l
    obtain ⟨F2, r2, x2⟩ := r1.freeze1 i
    exact ⟨F2, r2.congr fun j => by
      simp only [List.mem_filter, List.mem_cons, not_or, decide_eq_true_eq]
      constructor
      · rintro ⟨a, b, c⟩; exact ⟨⟨a, c⟩, b⟩
      · rintro ⟨⟨a, c⟩, b⟩; exact ⟨a, b, c⟩, x1.trans x2⟩
/-- only the lists of m' are still ours -/
theorem Rel.weak {m' : List Nat} (r : Rel K g H0 F0 m σ H F ρ) (h : m'.all (fun i => m.contains i) = true) : ∃ F', Rel K g H0 F0 m' σ H F' ρ ∧ Ex F F' := by
  obtain ⟨F1, r1, x1⟩ := r.freezeAll (m.filter (· ∉ m'))
  refine ⟨F1, r1.congr fun i => ?_, x1⟩
  have hs : i ∈ m' → i ∈ m := fun hi => by simpa using List.all_eq_true.mp h i hi
  simp only [List.mem_filter, decide_eq_true_eq, not_and, Decidable.not_not]
  exact ⟨fun hi => ⟨hs hi, fun _ => hi⟩, fun ⟨a, b⟩ => b a⟩
end
end DL

/-! DL2: the readings over data, expressions. -/
namespace DL
open PySem L2
abbrev XD := Str → D → Prop
/-- what is wanted of an exception: its class (by the module's name), what it carries -/
def XE (K : PySem.W.Frag) (g : Gd) (H F : Hp) (x : XD) (E : XK) : Prop :=
  ∀ (n : Str) (dx : Addr) (H' F' : Hp) (v : V) (d : D), Fr g H F H' F' → H dx = none → H' dx = some (.xd [("thing", v)]) → Is K F' v d → x n d → E (.ref (He.ga K n)) (some dx) H'
abbrev x0 : XD := fun _ _ => False
section
variable {K : PySem.W.Frag} {g : Gd} {H0 F0 H F H1 F1 : Hp} {x : XD} {E : XK}
theorem XE.step (h : XE K g H F x E) (r : Fr g H F H1 F1) : XE K g H1 F1 x E := fun C dx H' F' v d q n e i hx => h C dx H' F' v d (r.trans q) (r.back n) e i hx
theorem XE.none : XE K g H F x0 E := fun _ _ _ _ _ _ _ _ _ _ hx => hx.elim
end
abbrev FE := Ro → (D → Prop) → XD → Prop
abbrev FT := Ro → (Bool → Prop) → XD → Prop
abbrev FA := Ro → (List D → Prop) → XD → Prop
/-- an expression that gives data -/
def tE (K : PySem.W.Frag) (g : Gd) (E : XK) (m : List Nat) (f : FE) : TE := fun σ H Q => ∃ H0 F0 F ρ q x, Rel K g H0 F0 m σ H F ρ ∧ f ρ q x ∧
  (∀ v H' F' d, Fr g H F H' F' → Is K F' v d → q d → Q v H') ∧ XE K g H F x E
/-- .. a list that a name of ours may hold alone, or data -/
def IsB (K : PySem.W.Frag) (g : Gd) (F H : Hp) (v : V) (d : D) : Prop := Is K F v d ∨ ∃ a o, v = .ref a ∧ H a = some o ∧ ¬ g.M a ∧ Own K F o d
def tBo (K : PySem.W.Frag) (g : Gd) (E : XK) (m : List Nat) (f : FE) : TE := fun σ H Q => ∃ H0 F0 F ρ q x, Rel K g H0 F0 m σ H F ρ ∧ f ρ q x ∧
  (∀ v H' F' d, Fr g H F H' F' → IsB K g F' H' v d → q d → Q v H') ∧ XE K g H F x E
/-- .. a new list -/
def tF (K : PySem.W.Frag) (g : Gd) (E : XK) (m : List Nat) (f : FE) : TE := fun σ H Q => ∃ H0 F0 F ρ q x, Rel K g H0 F0 m σ H F ρ ∧ f ρ q x ∧
  (∀ p H' F' vs xs, Fr g H F H' F' → H p = none → H' p = some (.lst vs) → F' p = none → IsAll K F' vs xs → q (.lst xs) → Q (.ref p) H') ∧ XE K g H F x E
/-- .. a new list or dict, ours -/
def tFO (K : PySem.W.Frag) (g : Gd) (E : XK) (m : List Nat) (f : FE) : TE := fun σ H Q => ∃ H0 F0 F ρ q x, Rel K g H0 F0 m σ H F ρ ∧ f ρ q x ∧
  (∀ p H' F' o d, Fr g H F H' F' → H p = none → H' p = some o → F' p = none → Own K F' o d → q d → Q (.ref p) H') ∧ XE K g H F x E
def tT (K : PySem.W.Frag) (g : Gd) (E : XK) (m : List Nat) (f : FT) : TT := fun σ H Q => ∃ H0 F0 F ρ q x, Rel K g H0 F0 m σ H F ρ ∧ f ρ q x ∧
  (∀ b H' F', Fr g H F H' F' → q b → Q b H') ∧ XE K g H F x E
def tA (K : PySem.W.Frag) (g : Gd) (E : XK) (m : List Nat) (f : FA) : TA := fun σ H Q => ∃ H0 F0 F ρ q x, Rel K g H0 F0 m σ H F ρ ∧ f ρ q x ∧
  (∀ vs H' F' ds, Fr g H F H' F' → IsAll K F' vs ds → q ds → Q vs H') ∧ XE K g H F x E
abbrev DE (X : Cx) (g : Gd) (E : XK) (m : List Nat) (e : Expr) (f : FE) : Prop := PE X e (tE X.K g E m f)
abbrev DB (X : Cx) (g : Gd) (E : XK) (m : List Nat) (e : Expr) (f : FE) : Prop := PE X e (tBo X.K g E m f)
abbrev DF (X : Cx) (g : Gd) (E : XK) (m : List Nat) (e : Expr) (f : FE) : Prop := PE X e (tF X.K g E m f)
abbrev DFO (X : Cx) (g : Gd) (E : XK) (m : List Nat) (e : Expr) (f : FE) : Prop := PE X e (tFO X.K g E m f)
abbrev DT (X : Cx) (g : Gd) (E : XK) (m : List Nat) (e : Expr) (f : FT) : Prop := PT X e (tT X.K g E m f)
abbrev DW (X : Cx) (g : Gd) (E : XK) (m : List Nat) (e : Expr) (f : FT) : Prop := PW X e (tT X.K g E m f)
abbrev DA (X : Cx) (g : Gd) (E : XK) (m : List Nat) (es : List Expr) (f : FA) : Prop := PA X es (tA X.K g E m f)

theorem PEimp {X : Cx} {e : Expr} {t t' : TE} (h : PE X e t) (i : ∀ σ H Q, t' σ H Q → t σ H Q) : PE X e t' := ⟨fun pins s σ H Q I q => h.run pins s σ H Q I (i σ H Q q)⟩
theorem PTimp {X : Cx} {e : Expr} {t t' : TT} (h : PT X e t) (i : ∀ σ H Q, t' σ H Q → t σ H Q) : PT X e t' := ⟨fun pins s σ H Q I q => h.run pins s σ H Q I (i σ H Q q)⟩
theorem PWimp {X : Cx} {e : Expr} {t t' : TT} (h : PW X e t) (i : ∀ σ H Q, t' σ H Q → t σ H Q) : PW X e t' := ⟨fun wh pins s σ H Q I q => h.run wh pins s σ H Q I (i σ H Q q)⟩
theorem PAimp {X : Cx} {e : List Expr} {t t' : TA} (h : PA X e t) (i : ∀ σ H Q, t' σ H Q → t σ H Q) : PA X e t' := ⟨fun pos pins s σ H Q I q => h.run pos pins s σ H Q I (i σ H Q q)⟩
theorem PSimp {X : Cx} {e : Stmt} {t t' : TS} (h : PS X e t) (i : ∀ D σ H, t' D σ H → t D σ H) : PS X e t' := ⟨fun pins s σ H D I q => h.run pins s σ H D I (i D σ H q)⟩
theorem PSsimp {X : Cx} {e : List Stmt} {t t' : TS} (h : PSs X e t) (i : ∀ D σ H, t' D σ H → t D σ H) : PSs X e t' := ⟨fun pins s σ H D I q => h.run pins s σ H D I (i D σ H q)⟩

/-! ### from one to another -/
section
variable {X : Cx} {g : Gd} {E : XK} {m : List Nat} {e : Expr} {f : FE}
theorem DE.toB (h : DE X g E m e f) : DB X g E m e f := PEimp h fun σ H Q ⟨H0, F0, F, ρ, q, x, R, hf, hq, hx⟩ =>
  ⟨H0, F0, F, ρ, q, x, R, hf, fun v H' F' d r i hd => hq v H' F' d r (.inl i) hd, hx⟩
/-- a new list, frozen at once -/
theorem DF.toE (h : DF X g E m e f) : DE X g E m e f := PEimp h fun σ H Q ⟨H0, F0, F, ρ, q, x, R, hf, hq, hx⟩ =>
  ⟨H0, F0, F, ρ, q, x, R, hf, fun p H' F' vs xs r n h1 h2 ha hd => hq _ H' (upd F' p (.lst vs)) _ (r.freeze h1 n h2) (.lst upd_same (ha.up (upd_ex h2))) hd, hx⟩
theorem DF.toO (h : DF X g E m e f) : DFO X g E m e f := PEimp h fun σ H Q ⟨H0, F0, F, ρ, q, x, R, hf, hq, hx⟩ =>
  ⟨H0, F0, F, ρ, q, x, R, hf, fun p H' F' vs xs r n h1 h2 ha hd => hq p H' F' _ _ r n h1 h2 (.lst ha) hd, hx⟩
theorem DF.toB (h : DF X g E m e f) : DB X g E m e f := DE.toB (DF.toE h)
end
theorem IsB.up {K : PySem.W.Frag} {g : Gd} {F H F' H' : Hp} {v : V} {d : D} (h : IsB K g F H v d) (r : Fr g H F H' F') : IsB K g F' H' v d := by
  rcases h with h | ⟨a, o, rfl, h1, h2, h3⟩
  · exact .inl (h.up r.f0)
  · exact .inr ⟨a, o, rfl, r.pre _ _ h2 h1, h2, h3.up r.f0⟩

/-! ### names, constants -/
def fVar (i : Nat) : FE := fun ρ q _ => match ρ[i]? with | some (some d) => q d | _ => False
def fK (d : D) : FE := fun _ q _ => q d
section
variable {X : Cx} {g : Gd} {E : XK} {m : List Nat}
theorem de_of {e : Expr} {i : Nat} (h : PE X e (tVar i)) (hm : m.contains i = false := by rfl) : DE X g E m e (fVar i) := PEimp h fun σ H Q ⟨H0, F0, F, ρ, q, x, R, hf, hq, hx⟩ => by
  unfold fVar at hf
  split at hf
  · rename_i d e
    obtain ⟨v, e1, e2⟩ := R.vals i d e (by simpa using hm)
    exact ⟨v, e1, hq v H F d R.fr.self e2 hf⟩
  · exact hf.elim
theorem db_of {e : Expr} {i : Nat} (h : PE X e (tVar i)) : DB X g E m e (fVar i) := PEimp h fun σ H Q ⟨H0, F0, F, ρ, q, x, R, hf, hq, hx⟩ => by
  unfold fVar at hf
  split at hf
  · rename_i d e
    by_cases hm : i ∈ m
    · obtain ⟨oa, h1, _⟩ := R.own
      obtain ⟨vs, xs, e1, e2, e3, e4, e5, e6⟩ := h1 i hm
      rw [e] at e2
      cases e2
      exact ⟨_, e1, hq _ H F _ R.fr.self (.inr ⟨_, _, rfl, e3, fun z => (R.fr.nm _ z).2 e6, e4⟩) hf⟩
    · obtain ⟨v, e1, e2⟩ := R.vals i d e hm
      exact ⟨v, e1, hq v H F d R.fr.self (.inl e2) hf⟩
  · exact hf.elim
theorem de_c {e : Expr} {v : V} {d : D} (h : PE X e (tC v)) (hi : ∀ F, Is X.K F v d) : DE X g E m e (fK d) := PEimp h fun σ H Q ⟨H0, F0, F, ρ, q, x, R, hf, hq, hx⟩ => hq v H F d R.fr.self (hi F) hf
theorem de_int {i : Int} {j : Nat} {pos : Pos} : DE X g E m (.Constant (.int i) j pos) (fK (.int i)) := de_c pe_int fun _ => .int i
theorem de_bl {b : Bool} {j : Nat} {pos : Pos} : DE X g E m (.Constant (.bool b) j pos) (fK (.bl b)) := de_c pe_bl fun _ => .bl b
theorem de_non {j : Nat} {pos : Pos} : DE X g E m (.Constant .none j pos) (fK .non) := de_c pe_non fun _ => .non
theorem de_str {x : Str} {j : Nat} {pos : Pos} : DE X g E m (.Constant (.str x) j pos) (fK (.str x)) := de_c pe_str fun _ => .str x
/-- a module's constant -/
theorem de_glob {x : Str} {v : V} {u : Value} {d : D} {pos : Pos} (hg : Gl X x) (hm : X.mg x = some u) (r : RelV v u) (hi : ∀ F, Is X.K F v d) (hd : (x == ("__debug__" : Str)) = false := by decide) : DE X g E m (.Name x pos) (fK d) := de_c (pe_glob hg hm r hd) hi
end

/-! ### two operands, one -/
def f2 (sem : D → D → (D → Prop) → XD → Prop) (fa fb : FE) : FE := fun ρ q x => fa ρ (fun a => fb ρ (fun b => sem a b q x) x) x
def f1 (sem : D → (D → Prop) → XD → Prop) (fa : FE) : FE := fun ρ q x => fa ρ (fun a => sem a q x) x
/-- an operator by values does sem on data -/
def Sem2 (K : PySem.W.Frag) (r : R2) (sem : D → D → (D → Prop) → XD → Prop) : Prop :=
  ∀ (g : Gd) (E : XK) (H F : Hp) (v w : V) (a b : D) (q : D → Prop) (x : XD) (Q : VK), Fr g H F H F → IsB K g F H v a → IsB K g F H w b → sem a b q x →
    (∀ u H' F' d, Fr g H F H' F' → Is K F' u d → q d → Q u H') → XE K g H F x E → r v w H Q
/-- .. giving a new list -/
def Sem2F (K : PySem.W.Frag) (r : R2) (sem : D → D → (D → Prop) → XD → Prop) : Prop :=
  ∀ (g : Gd) (E : XK) (H F : Hp) (v w : V) (a b : D) (q : D → Prop) (x : XD) (Q : VK), Fr g H F H F → IsB K g F H v a → IsB K g F H w b → sem a b q x →
    (∀ p H' F' vs xs, Fr g H F H' F' → H p = none → H' p = some (.lst vs) → F' p = none → IsAll K F' vs xs → q (.lst xs) → Q (.ref p) H') → XE K g H F x E → r v w H Q
def Sem1 (K : PySem.W.Frag) (r : V → Hp → VK → Prop) (sem : D → (D → Prop) → XD → Prop) : Prop :=
  ∀ (g : Gd) (E : XK) (H F : Hp) (v : V) (a : D) (q : D → Prop) (x : XD) (Q : VK), Fr g H F H F → IsB K g F H v a → sem a q x →
    (∀ u H' F' d, Fr g H F H' F' → Is K F' u d → q d → Q u H') → XE K g H F x E → r v H Q
section
variable {X : Cx} {g : Gd} {E : XK} {m : List Nat} {a b : Expr} {fa fb : FE} {sem : D → D → (D → Prop) → XD → Prop} {r : R2}
theorem de_2 {e : Expr} (h : PE X e (tOp r (tBo X.K g E m fa) (tBo X.K g E m fb))) (hs : Sem2 X.K r sem) : DE X g E m e (f2 sem fa fb) := PEimp h fun σ H Q ⟨H0, F0, F, ρ, q, x, R, hf, hq, hx⟩ => by
  refine ⟨H0, F0, F, ρ, _, x, R, hf, fun v H1 F1 d r1 i1 hb => ?_, hx⟩
  refine ⟨H0, F0, F1, ρ, _, x, R.step r1, hb, fun w H2 F2 d2 r2 i2 hs2 => ?_, hx.step r1⟩
  exact hs g E H2 F2 v w d d2 q x Q ((R.step r1).step r2).fr.self (i1.up r2) i2 hs2 (fun u H' F' d' r3 i3 hd => hq u H' F' d' (r1.trans (r2.trans r3)) i3 hd) ((hx.step r1).step r2)
theorem df_2 {e : Expr} (h : PE X e (tOp r (tBo X.K g E m fa) (tBo X.K g E m fb))) (hs : Sem2F X.K r sem) : DF X g E m e (f2 sem fa fb) := PEimp h fun σ H Q ⟨H0, F0, F, ρ, q, x, R, hf, hq, hx⟩ => by
  refine ⟨H0, F0, F, ρ, _, x, R, hf, fun v H1 F1 d r1 i1 hb => ?_, hx⟩
  refine ⟨H0, F0, F1, ρ, _, x, R.step r1, hb, fun w H2 F2 d2 r2 i2 hs2 => ?_, hx.step r1⟩
  exact hs g E H2 F2 v w d d2 q x Q ((R.step r1).step r2).fr.self (i1.up r2) i2 hs2 (fun p H' F' vs xs r3 n h1 h2 ha hd => hq p H' F' vs xs (r1.trans (r2.trans r3)) (r1.back (r2.back n)) h1 h2 ha hd) ((hx.step r1).step r2)
theorem de_1 {e : Expr} {r : V → Hp → VK → Prop} {sem : D → (D → Prop) → XD → Prop} (h : PE X e (tUn r (tBo X.K g E m fa))) (hs : Sem1 X.K r sem) : DE X g E m e (f1 sem fa) := PEimp h fun σ H Q ⟨H0, F0, F, ρ, q, x, R, hf, hq, hx⟩ => by
  refine ⟨H0, F0, F, ρ, _, x, R, hf, fun v H1 F1 d r1 i1 hb => ?_, hx⟩
  exact hs g E H1 F1 v d q x Q (R.step r1).fr.self i1 hb (fun u H' F' d' r3 i3 hd => hq u H' F' d' (r1.trans r3) i3 hd) (hx.step r1)
end

/-! ### numbers -/
/-- two integers -/
def sI (C : Int → Int → Prop) (h : Int → Int → D) : D → D → (D → Prop) → XD → Prop := fun a b q _ => match a, b with | .int i, .int j => C i j ∧ q (h i j) | _, _ => False
theorem IsB.int {K : PySem.W.Frag} {g : Gd} {F H : Hp} {v : V} {i : Int} (h : IsB K g F H v (.int i)) : v = .int i := by
  rcases h with h | ⟨_, _, _, _, _, z⟩
  · cases h; rfl
  · cases z
theorem IsB.bl {K : PySem.W.Frag} {g : Gd} {F H : Hp} {v : V} {i : Bool} (h : IsB K g F H v (.bl i)) : v = .bl i := by
  rcases h with h | ⟨_, _, _, _, _, z⟩
  · cases h; rfl
  · cases z
theorem IsB.str {K : PySem.W.Frag} {g : Gd} {F H : Hp} {v : V} {i : Str} (h : IsB K g F H v (.str i)) : v = .str i := by
  rcases h with h | ⟨_, _, _, _, _, z⟩
  · cases h; rfl
  · cases z
theorem IsB.tup {K : PySem.W.Frag} {g : Gd} {F H : Hp} {v : V} {ds : List D} (h : IsB K g F H v (.tup ds)) : ∃ a xs, v = .ref a ∧ TupD K F a xs ∧ IsAll K F xs ds := by
  rcases h with h | ⟨_, _, _, _, _, z⟩
  · cases h with | tup h1 h2 => exact ⟨_, _, rfl, h1, h2⟩
  · cases z
theorem IsB.lst {K : PySem.W.Frag} {g : Gd} {F H : Hp} {v : V} {ds : List D} (s : Ex F H) (h : IsB K g F H v (.lst ds)) : ∃ a xs, v = .ref a ∧ H a = some (.lst xs) ∧ IsAll K F xs ds := by
  rcases h with h | ⟨a, o, rfl, e, _, ha⟩
  · cases h with | lst h1 h2 => exact ⟨_, _, rfl, s _ _ h1, h2⟩
  · cases ha with | lst ha => exact ⟨_, _, rfl, e, ha⟩
theorem sem_I {K : PySem.W.Frag} {C : Int → Int → Prop} {h : Int → Int → D} {h' : Int → Int → V} (hi : ∀ i j F, Is K F (h' i j) (h i j)) : Sem2 K (rI C h') (sI C h) := by
  intro g E H F v w a b q x Q r ia ib hs hq hx
  cases a <;> cases b <;> first | exact hs.elim | skip
  obtain ⟨hc, hs⟩ := hs
  exact ⟨_, _, ia.int, ib.int, hc, hq _ H F _ r (hi _ _ F) hs⟩
/-- without a condition -/
def sI0 (h : Int → Int → D) : D → D → (D → Prop) → XD → Prop := fun a b q _ => match a, b with | .int i, .int j => q (h i j) | _, _ => False
theorem sem_I0 {K : PySem.W.Frag} {h : Int → Int → D} {h' : Int → Int → V} (hi : ∀ i j F, Is K F (h' i j) (h i j)) : Sem2 K (rI0 h') (sI0 h) := by
  intro g E H F v w a b q x Q r ia ib hs hq hx
  cases a <;> cases b <;> first | exact hs.elim | skip
  exact ⟨_, _, ia.int, ib.int, hq _ H F _ r (hi _ _ F) hs⟩

/-! ### data as the library's own data -/
def keyPy : Key → PyData
  | .inl i => .int i
  | .inr s => .str s
def keyOk : Key → Bool
  | .inl i => decide (i.natAbs.log2 < 1920)
  | .inr s => PyData.strOk s
def keyCost : Key → Nat
  | .inl _ => 2002
  | .inr s => 10 * s.length + 4
mutual
def D.py : D → PyData
  | .non => .none
  | .bl b => .bool b
  | .int i => .int i
  | .str s => .str s
  | .tup xs => .tuple (D.pys xs)
  | .lst xs => .list (D.pys xs)
  | .ref _ => .none
  | .dic ks vs => .dict ((ks.map keyPy).zip (D.pys vs))
  | .dtu _ _ => .none
  | .err _ _ => .none
  | .diz _ _ => .none
def D.pys : List D → List PyData
  | [] => []
  | x :: xs => D.py x :: D.pys xs
end
mutual
/-- no thing known by its address alone, texts well made -/
def D.ok : D → Bool
  | .non => true
  | .bl _ => true
  | .int _ => true
  | .str s => PyData.strOk s
  | .tup xs => D.oks xs
  | .lst xs => D.oks xs
  | .ref _ => false
  | .dic _ _ => false
  | .dtu _ _ => false
  | .err _ _ => false
  | .diz _ _ => false
def D.oks : List D → Bool
  | [] => true
  | x :: xs => D.ok x && D.oks xs
end
mutual
/-- .. and dicts with keys well made -/
def D.okR : D → Bool
  | .non => true
  | .bl _ => true
  | .int _ => true
  | .str s => PyData.strOk s
  | .tup xs => D.oksR xs
  | .lst xs => D.oksR xs
  | .ref _ => false
  | .dic ks vs => ks.all keyOk && (decide (ks.length = vs.length) && D.oksR vs)
  | .dtu _ _ => false
  | .err _ _ => false
  | .diz _ _ => false
def D.oksR : List D → Bool
  | [] => true
  | x :: xs => D.okR x && D.oksR xs
end
mutual
theorem D.ok.r : ∀ d : D, d.ok = true → d.okR = true
  | .non, _ => rfl
  | .bl _, _ => rfl
  | .int _, _ => rfl
  | .str s, h => h
  | .tup xs, h => D.oks.r xs h
  | .lst xs, h => D.oks.r xs h
  | .ref _, h => by cases h
  | .dic _ _, h => by cases h
  | .dtu _ _, h => by cases h
  | .err _ _, h => by cases h
  | .diz _ _, h => by cases h
theorem D.oks.r : ∀ ds : List D, D.oks ds = true → D.oksR ds = true
  | [], _ => rfl
  | x :: xs, h => by
    have h' : (D.ok x && D.oks xs) = true := h
    rw [Bool.and_eq_true] at h'
    show (D.okR x && D.oksR xs) = true
    rw [D.ok.r x h'.1, D.oks.r xs h'.2] <;> rfl
end
mutual
def D.dep : D → Nat
  | .non => 0
  | .bl _ => 0
  | .int _ => 0
  | .str _ => 0
  | .tup xs => D.deps xs + 1
  | .lst xs => D.deps xs + 1
  | .ref _ => 0
  | .dic _ vs => D.deps vs + 1
  | .dtu _ _ => 0
  | .err _ _ => 0
  | .diz _ _ => 0
def D.deps : List D → Nat
  | [] => 0
  | x :: xs => max (D.dep x) (D.deps xs)
end
mutual
/-- integers short enough to be shown -/
def D.shows : D → Bool
  | .non => true
  | .bl _ => true
  | .int i => decide (i.natAbs.log2 < 1920)
  | .str _ => true
  | .tup xs => D.showss xs
  | .lst xs => D.showss xs
  | .ref _ => false
  | .dic _ vs => D.showss vs
  | .dtu _ _ => false
  | .err _ _ => false
  | .diz _ _ => false
def D.showss : List D → Bool
  | [] => true
  | x :: xs => D.shows x && D.showss xs
end
mutual
/-- at most so many signs when shown -/
def D.cost : D → Nat
  | .non => 8
  | .bl _ => 8
  | .int _ => 2000
  | .str s => 10 * s.length + 2
  | .tup xs => D.costs xs + 3
  | .lst xs => D.costs xs + 3
  | .ref _ => 8
  | .dic ks vs => (ks.map keyCost).sum + D.costs vs + 3
  | .dtu _ _ => 8
  | .err _ _ => 8
  | .diz _ _ => 8
def D.costs : List D → Nat
  | [] => 0
  | x :: xs => D.cost x + 2 + D.costs xs
end
mutual
theorem D.py_lay : ∀ d : D, d.ok = true → d.py.canLay0 = true
  | .non, _ => rfl
  | .bl _, _ => rfl
  | .int _, _ => rfl
  | .str s, h => h
  | .tup xs, h => D.pys_lay xs h
  | .lst xs, h => D.pys_lay xs h
  | .ref _, h => by cases h
  | .dic _ _, h => by cases h
  | .dtu _ _, h => by cases h
  | .err _ _, h => by cases h
  | .diz _ _, h => by cases h
theorem D.pys_lay : ∀ xs : List D, D.oks xs = true → PyData.canLayAll0 (D.pys xs) = true
  | [], _ => rfl
  | x :: xs, h => by
    have h' : (D.ok x && D.oks xs) = true := h
    rw [Bool.and_eq_true] at h'
    show (PyData.canLay0 (D.py x) && PyData.canLayAll0 (D.pys xs)) = true
    rw [D.py_lay x h'.1, D.pys_lay xs h'.2] <;> rfl
end
theorem depthKv_le : ∀ (ks : List Key) (ds : List PyData), PyData.depthKv ((ks.map keyPy).zip ds) ≤ PyData.depthAll ds
  | [], ds => by rw [List.map_nil, List.zip_nil_left]; exact Nat.zero_le _
  | k :: ks, [] => by rw [List.zip_nil_right]; exact Nat.le_refl _
  | k :: ks, d :: ds => by
    have h := depthKv_le ks ds
    have e : (keyPy k).depth = 0 := by cases k <;> rfl
    show max (max (keyPy k).depth d.depth) (PyData.depthKv ((ks.map keyPy).zip ds)) ≤ max d.depth (PyData.depthAll ds)
    rw [e]; omega
mutual
theorem D.py_dep : ∀ d : D, d.py.depth ≤ d.dep
  | .non => Nat.le_refl _
  | .bl _ => Nat.le_refl _
  | .int _ => Nat.le_refl _
  | .str _ => Nat.le_refl _
  | .tup xs => Nat.add_le_add_right (D.pys_dep xs) 1
  | .lst xs => Nat.add_le_add_right (D.pys_dep xs) 1
  | .ref _ => Nat.le_refl _
  | .dic ks vs => Nat.add_le_add_right (Nat.le_trans (depthKv_le ks _) (D.pys_dep vs)) 1
  | .dtu _ _ => Nat.le_refl _
  | .err _ _ => Nat.le_refl _
  | .diz _ _ => Nat.le_refl _
theorem D.pys_dep : ∀ xs : List D, PyData.depthAll (D.pys xs) ≤ D.deps xs
  | [] => Nat.le_refl _
  | x :: xs => by
    show max (PyData.depth (D.py x)) (PyData.depthAll (D.pys xs)) ≤ max (D.dep x) (D.deps xs)
    have := D.py_dep x
    have := D.pys_dep xs
    omega
end
theorem D.shaped {d : D} (h : d.ok = true) (h2 : d.dep ≤ 64) : SeqAt.shaped d.py = true := by
  unfold SeqAt.shaped
  rw [D.py_lay d h, decide_eq_true (Nat.le_trans (D.py_dep d) h2)] <;> rfl
theorem D.pys_length : ∀ xs : List D, (D.pys xs).length = xs.length
  | [] => rfl
  | x :: xs => by show (D.pys xs).length + 1 = xs.length + 1; rw [D.pys_length xs]
theorem showableKv_of : ∀ (ks : List Key) (ds : List PyData), ks.all keyOk = true → PyData.showableAll ds = true → PyData.showableKv ((ks.map keyPy).zip ds) = true
  | [], ds, _, _ => by rw [List.map_nil, List.zip_nil_left]; rfl
  | k :: ks, [], _, _ => by rw [List.zip_nil_right]; rfl
  | k :: ks, d :: ds, h, h' => by
    rw [List.all_cons, Bool.and_eq_true] at h
    have h2 : (d.showable && PyData.showableAll ds) = true := h'
    rw [Bool.and_eq_true] at h2
    have e : (keyPy k).showable = true := by
      cases k with
      | inl i => exact h.1
      | inr s => rfl
    show ((keyPy k).showable && d.showable && PyData.showableKv ((ks.map keyPy).zip ds)) = true
    rw [e, h2.1, showableKv_of ks ds h.2 h2.2] <;> rfl
mutual
theorem D.py_showable : ∀ d : D, d.okR = true → d.shows = true → d.py.showable = true
  | .non, _, _ => rfl
  | .bl _, _, _ => rfl
  | .int _, _, h => h
  | .str _, _, _ => rfl
  | .tup xs, o, h => D.pys_showable xs o h
  | .lst xs, o, h => D.pys_showable xs o h
  | .ref _, _, h => by cases h
  | .dic ks vs, o, h => by
    have o' : (ks.all keyOk && (decide (ks.length = vs.length) && D.oksR vs)) = true := o
    rw [Bool.and_eq_true, Bool.and_eq_true] at o'
    exact showableKv_of ks _ o'.1 (D.pys_showable vs o'.2.2 h)
  | .dtu _ _, o, _ => by cases o
  | .err _ _, o, _ => by cases o
  | .diz _ _, o, _ => by cases o
theorem D.pys_showable : ∀ xs : List D, D.oksR xs = true → D.showss xs = true → PyData.showableAll (D.pys xs) = true
  | [], _, _ => rfl
  | x :: xs, o, h => by
    have h' : (D.shows x && D.showss xs) = true := h
    have o' : (D.okR x && D.oksR xs) = true := o
    rw [Bool.and_eq_true] at h' o'
    show (PyData.showable (D.py x) && PyData.showableAll (D.pys xs)) = true
    rw [D.py_showable x o'.1 h'.1, D.pys_showable xs o'.2 h'.2] <;> rfl
end
theorem keyPy_len (k : Key) (h : keyOk k = true) : (keyPy k).shown.length + 2 ≤ keyCost k := by
  cases k with
  | inl i =>
    have h' : i.natAbs.log2 < 1920 := of_decide_eq_true h
    have h2 := PySem.int_text_length_le (a := i) (k := 1920) (by decide) h'
    show (Str.ofString (toString i)).length + 2 ≤ 2002
    rw [ofString_length]
    omega
  | inr s =>
    have h' : PyData.strOk s = true := h
    have := StrLaws.reprText_len s fun c hc => by
      unfold PyData.strOk at h'
      rw [Array.all_eq_true_iff_forall_mem] at h'
      have := of_decide_eq_true (h' c (Array.mem_toList_iff.mp hc))
      exact Nat.lt_of_lt_of_le this (by decide)
    exact Nat.add_le_add_right this 2
theorem shownKv_len : ∀ (ks : List Key) (ds : List PyData), ks.all keyOk = true → ((PyData.shownKv ((ks.map keyPy).zip ds)).map (·.length)).sum + 2 * (PyData.shownKv ((ks.map keyPy).zip ds)).length ≤ (ks.map keyCost).sum + (((PyData.shownAll ds).map (·.length)).sum + 2 * (PyData.shownAll ds).length)
  | [], ds, _ => by rw [List.map_nil, List.zip_nil_left]; exact Nat.zero_le _
  | k :: ks, [], _ => by rw [List.zip_nil_right]; exact Nat.zero_le _
  | k :: ks, d :: ds, h => by
    rw [List.all_cons, Bool.and_eq_true] at h
    have h1 := keyPy_len k h.1
    have h2 := shownKv_len ks ds h.2
    show ((((keyPy k).shown ++ (": " : Str) ++ d.shown) :: PyData.shownKv ((ks.map keyPy).zip ds)).map (·.length)).sum + 2 * (((keyPy k).shown ++ (": " : Str) ++ d.shown) :: PyData.shownKv ((ks.map keyPy).zip ds)).length ≤ ((k :: ks).map keyCost).sum + (((d.shown :: PyData.shownAll ds).map (·.length)).sum + 2 * (d.shown :: PyData.shownAll ds).length)
    simp only [List.map_cons, List.sum_cons, List.length_cons, strLen_append]
    have : (": " : Str).length = 2 := rfl
    omega
mutual
theorem D.shown_len : ∀ d : D, d.okR = true → d.shows = true → d.py.shown.length ≤ d.cost
  | .non, _, _ => by show (4 : Nat) ≤ 8; decide
  | .bl true, _, _ => by show (4 : Nat) ≤ 8; decide
  | .bl false, _, _ => by show (5 : Nat) ≤ 8; decide
  | .int i, _, h => by
    have h' : i.natAbs.log2 < 1920 := of_decide_eq_true h
    have h2 := PySem.int_text_length_le (a := i) (k := 1920) (by decide) h'
    show (Str.ofString (toString i)).length ≤ 2000
    rw [ofString_length]
    omega
  | .str s, h, _ => by
    have h' : PyData.strOk s = true := h
    refine StrLaws.reprText_len s fun c hc => ?_
    unfold PyData.strOk at h'
    rw [Array.all_eq_true_iff_forall_mem] at h'
    have := of_decide_eq_true (h' c (Array.mem_toList_iff.mp hc))
    exact Nat.lt_of_lt_of_le this (by decide)
  | .tup xs, h, h2 => by
    have h1 := D.shown_lens xs h h2
    have h3 := tupleText_len_le (PyData.shownAll (D.pys xs))
    show (tupleText (PyData.shownAll (D.pys xs))).length ≤ D.costs xs + 3
    omega
  | .lst xs, h, h2 => by
    have h1 := D.shown_lens xs h h2
    have h3 := listText_len_le (PyData.shownAll (D.pys xs))
    show (listText (PyData.shownAll (D.pys xs))).length ≤ D.costs xs + 3
    omega
  | .ref _, h, _ => by cases h
  | .dic ks vs, h, h2 => by
    have o' : (ks.all keyOk && (decide (ks.length = vs.length) && D.oksR vs)) = true := h
    rw [Bool.and_eq_true, Bool.and_eq_true] at o'
    have h1 := D.shown_lens vs o'.2.2 h2
    have h3 := dictText_len_le (PyData.shownKv ((ks.map keyPy).zip (D.pys vs)))
    have h4 := shownKv_len ks (D.pys vs) o'.1
    show (dictText (PyData.shownKv ((ks.map keyPy).zip (D.pys vs)))).length ≤ (ks.map keyCost).sum + D.costs vs + 3
    omega
  | .dtu _ _, h, _ => by cases h
  | .err _ _, h, _ => by cases h
  | .diz _ _, h, _ => by cases h
theorem D.shown_lens : ∀ xs : List D, D.oksR xs = true → D.showss xs = true → ((PyData.shownAll (D.pys xs)).map (·.length)).sum + 2 * (PyData.shownAll (D.pys xs)).length ≤ D.costs xs
  | [], _, _ => Nat.le_refl _
  | x :: xs, h, h2 => by
    have h' : (D.okR x && D.oksR xs) = true := h
    have h2' : (D.shows x && D.showss xs) = true := h2
    rw [Bool.and_eq_true] at h' h2'
    have q1 := D.shown_len x h'.1 h2'.1
    have q2 := D.shown_lens xs h'.2 h2'.2
    show (((PyData.shown (D.py x)) :: PyData.shownAll (D.pys xs)).map (·.length)).sum + 2 * ((PyData.shown (D.py x)) :: PyData.shownAll (D.pys xs)).length ≤ D.cost x + 2 + D.costs xs
    rw [List.map_cons, List.sum_cons, List.length_cons]
    omega
end
section
variable {K : PySem.W.Frag} {F : Hp}
mutual
theorem Is.dp : ∀ (d : D) (v : V), d.ok = true → Is K F v d → Dp K F v d.py
  | .non, _, _, h => by cases h; exact .non
  | .bl b, _, _, h => by cases h; exact .bl b
  | .int i, _, _, h => by cases h; exact .int i
  | .str x, _, _, h => by cases h; exact .str x
  | .tup ds, _, o, h => by
    cases h with
    | tup h1 h2 => exact .tup h1.sqT (IsAll.dp ds _ o h2)
  | .lst ds, _, o, h => by
    cases h with
    | lst h1 h2 => exact .lst (.inl (.inl h1)) (IsAll.dp ds _ o h2)
  | .ref _, _, o, _ => by cases o
  | .dic _ _, _, o, _ => by cases o
  | .dtu _ _, _, o, _ => by cases o
  | .err _ _, _, o, _ => by cases o
  | .diz _ _, _, o, _ => by cases o
theorem IsAll.dp : ∀ (ds : List D) (vs : List V), D.oks ds = true → IsAll K F vs ds → DpAll K F vs (D.pys ds)
  | [], _, _, h => by cases h; exact .nil
  | d :: ds, _, o, h => by
    have o' : (D.ok d && D.oks ds) = true := o
    rw [Bool.and_eq_true] at o'
    cases h with
    | cons h1 h2 => exact .cons (Is.dp d _ o'.1 h1) (IsAll.dp ds _ o'.2 h2)
end
theorem IsB.dp {g : Gd} {H : Hp} {v : V} {d : D} (s : Ex F H) (h : IsB K g F H v d) (o : d.ok = true) : Dp K H v d.py := by
  rcases h with h | ⟨a, u, rfl, h1, _, h3⟩
  · exact Is.dp d v o (h.up s)
  · cases h3 with
    | lst h3 => exact .lst (.inl (.inl h1)) (IsAll.dp _ _ o (h3.up s))
    | dtu _ _ => cases o
end
/-- == of data -/
def eqD (a b : D) : Bool := PyData.eqv a.py b.py
end DL

/-! DL3: operators, comparisons, tests, displays, subscripts, built-in calls over data. -/
namespace DL
open PySem L2
abbrev LN : Nat := 1000000
theorem LN_line {n : Nat} (h : n ≤ LN) : n ≤ sizeLine := Nat.le_trans h (by decide)
theorem LN_lt {n : Nat} (h : n ≤ LN) : n < sizeLine := Nat.lt_of_le_of_lt h (by decide)
section
variable {X : Cx} {g : Gd} {E : XK} {m : List Nat} {a b : Expr} {fa fb : FE} {pos : Pos}

/-! ### + -/
def sAdd : D → D → (D → Prop) → XD → Prop := fun a b q _ => match a, b with
  | .int i, .int j => q (.int (i + j))
  | .lst xs, .lst ys => xs.length + ys.length ≤ LN ∧ q (.lst (xs ++ ys))
  | .tup xs, .tup ys => xs.length + ys.length ≤ LN ∧ q (.tup (xs ++ ys))
  | .str x, .str y => x.length + y.length ≤ LN ∧ q (.str (x ++ y))
  | _, _ => False
def rAdd4 (K : PySem.W.Frag) : R2 := fun x y H Q => rI0 (fun i j => .int (i + j)) x y H Q ∨ rCat x y H Q ∨ rCatA K x y H Q ∨ (∃ i j, x = .str i ∧ y = .str j ∧ i.length + j.length ≤ sizeLine ∧ Q (.str (i ++ j)) H)
theorem op_add4 : OpR X (binaryOp .Add) (rAdd4 X.K) := op_add.or (op_cat.or (op_catA.or op_add_str))
theorem sem_add {K : PySem.W.Frag} : Sem2 K (rAdd4 K) sAdd := by
  intro g E H F v w a b q x Q r ia ib hs hq hx
  unfold sAdd at hs
  split at hs
  · exact .inl ⟨_, _, ia.int, ib.int, hq _ H F _ r (.int _) hs⟩
  · obtain ⟨hl, hs⟩ := hs
    obtain ⟨p, xs, rfl, h1, h2⟩ := ia.lst r.sub
    obtain ⟨p', ys, rfl, h1', h2'⟩ := ib.lst r.sub
    have e1 := h2.length
    have e2 := h2'.length
    exact .inr (.inl ⟨_, _, _, _, rfl, rfl, h1, h1', LN_line (by omega), fun p hp => hq _ _ (upd F p _) _ (r.new hp) (.lst upd_same ((h2.append h2').up (r.new (o := .lst (xs ++ ys)) hp).f0)) hs⟩)
  · obtain ⟨hl, hs⟩ := hs
    obtain ⟨p, xs, rfl, h1, h2⟩ := ia.tup
    obtain ⟨p', ys, rfl, h1', h2'⟩ := ib.tup
    have e1 := h2.length
    have e2 := h2'.length
    refine .inr (.inr (.inl ⟨_, _, _, _, rfl, rfl, r.sub.sqT h1.sqT, r.sub.sqT h1'.sqT, LN_line (by omega), fun z => ?_, fun z1 z2 => ?_, fun z1 z2 p hp => ?_⟩))
    · subst z
      cases h2
      exact hq _ H F _ r (.tup h1' h2') hs
    · subst z2
      cases h2'
      rw [List.append_nil] at hs
      exact hq _ H F _ r (.tup h1 h2) hs
    · exact hq _ _ (upd F p _) _ (r.new hp) (.tup (.inl upd_same) ((h2.append h2').up (r.new (o := .tup (xs ++ ys)) hp).f0)) hs
  · obtain ⟨hl, hs⟩ := hs
    exact .inr (.inr (.inr ⟨_, _, ia.str, ib.str, LN_line hl, hq _ H F _ r (.str _) hs⟩))
  · exact hs.elim
theorem de_add (ha : DB X g E m a fa) (hb : DB X g E m b fb) : DE X g E m (.BinOp a .Add b pos) (f2 sAdd fa fb) := de_2 (pe_op op_add4 ha hb) sem_add
/-- xs + ys, ours -/
def sCat : D → D → (D → Prop) → XD → Prop := fun a b q _ => match a, b with
  | .lst xs, .lst ys => xs.length + ys.length ≤ LN ∧ q (.lst (xs ++ ys))
  | _, _ => False
theorem sem_cat {K : PySem.W.Frag} : Sem2F K rCat sCat := by
  intro g E H F v w a b q x Q r ia ib hs hq hx
  unfold sCat at hs
  split at hs
  · obtain ⟨hl, hs⟩ := hs
    obtain ⟨p, xs, rfl, h1, h2⟩ := ia.lst r.sub
    obtain ⟨p', ys, rfl, h1', h2'⟩ := ib.lst r.sub
    have e1 := h2.length
    have e2 := h2'.length
    exact ⟨_, _, _, _, rfl, rfl, h1, h1', LN_line (by omega), fun p hp => hq p _ F _ _ (r.newO hp) hp upd_same (r.freeF hp) (h2.append h2') hs⟩
  · exact hs.elim
theorem df_cat (ha : DB X g E m a fa) (hb : DB X g E m b fb) : DF X g E m (.BinOp a .Add b pos) (f2 sCat fa fb) := df_2 (pe_op op_cat ha hb) sem_cat

/-! ### -, *, //, %, ** -/
theorem de_sub (ha : DB X g E m a fa) (hb : DB X g E m b fb) : DE X g E m (.BinOp a .Sub b pos) (f2 (sI0 fun i j => .int (i - j)) fa fb) := de_2 (pe_op op_sub ha hb) (sem_I0 fun i j _ => .int (i - j))
theorem op_mulO : OpR X (binaryOp .Mult) (rI IntMulOk fun i j => .int (i * j)) := opI fun _ _ _ _ _ _ _ hc q => PyProof.Rows.mul_int q hc
theorem de_mul (ha : DB X g E m a fa) (hb : DB X g E m b fb) : DE X g E m (.BinOp a .Mult b pos) (f2 (sI IntMulOk fun i j => .int (i * j)) fa fb) := de_2 (pe_op op_mulO ha hb) (sem_I fun i j _ => .int (i * j))
def DivOk (i j : Int) : Prop := j ≠ 0 ∧ Builtin.divisionGoesByPylong i j = false
theorem op_divO : OpR X (binaryOp .FloorDiv) (rI DivOk fun i j => .int (i.fdiv j)) := opI fun _ _ _ _ _ _ _ hc q => PyProof.Rows.floordiv_int hc.1 q (.inl hc.2)
theorem de_div (ha : DB X g E m a fa) (hb : DB X g E m b fb) : DE X g E m (.BinOp a .FloorDiv b pos) (f2 (sI DivOk fun i j => .int (i.fdiv j)) fa fb) := de_2 (pe_op op_divO ha hb) (sem_I fun i j _ => .int (i.fdiv j))
theorem de_mod (ha : DB X g E m a fa) (hb : DB X g E m b fb) : DE X g E m (.BinOp a .Mod b pos) (f2 (sI (fun _ j => j ≠ 0) fun i j => .int (i.fmod j)) fa fb) := de_2 (pe_op op_modN ha hb) (sem_I fun i j _ => .int (i.fmod j))
theorem de_pow (ha : DB X g E m a fa) (hb : DB X g E m b fb) : DE X g E m (.BinOp a .Pow b pos) (f2 (sI CPow fun i j => .int (i ^ j.toNat)) fa fb) := de_2 (pe_op op_pow ha hb) (sem_I fun i j _ => .int (i ^ j.toNat))
def sNeg : D → (D → Prop) → XD → Prop := fun a q _ => match a with | .int i => q (.int (-i)) | _ => False
theorem de_neg (ha : DB X g E m a fa) : DE X g E m (.UnaryOp .USub a pos) (f1 sNeg fa) := de_1 (pe_un un_neg ha) fun g E H F v a q x Q r ia hs hq hx => by
  unfold sNeg at hs
  split at hs
  · exact ⟨_, ia.int, hq _ H F _ r (.int _) hs⟩
  · exact hs.elim

/-! ### [x] * n, (x,) * n -/
def sRep : D → D → (D → Prop) → XD → Prop := fun a b q _ => match a, b with
  | .lst xs, .int k => xs.length * k.toNat ≤ LN ∧ -1000000 ≤ k ∧ k ≤ 1000000 ∧ q (.lst (List.replicate k.toNat xs).flatten)
  | _, _ => False
theorem IsAll.repF {K : PySem.W.Frag} {F : Hp} {xs : List V} {ds : List D} (h : IsAll K F xs ds) : ∀ n : Nat, IsAll K F (List.replicate n xs).flatten (List.replicate n ds).flatten
  | 0 => .nil
  | n + 1 => by
    rw [List.replicate_succ, List.replicate_succ, List.flatten_cons, List.flatten_cons]
    exact h.append (h.repF n)
theorem sem_rep {K : PySem.W.Frag} : Sem2F K rRep sRep := by
  intro g E H F v w a b q x Q r ia ib hs hq hx
  unfold sRep at hs
  split at hs
  · obtain ⟨hl, hk1, hk2, hs⟩ := hs
    obtain ⟨p, xs, rfl, h1, h2⟩ := ia.lst r.sub
    have e1 := h2.length
    exact ⟨_, _, _, rfl, ib.int, h1, by omega, by omega, LN_line (by rw [e1]; exact hl), fun p hp => hq p _ F _ _ (r.newO hp) hp upd_same (r.freeF hp) (h2.repF _) hs⟩
  · exact hs.elim
theorem df_rep (ha : DB X g E m a fa) (hb : DB X g E m b fb) : DF X g E m (.BinOp a .Mult b pos) (f2 sRep fa fb) := df_2 (pe_op op_rep ha hb) sem_rep

/-! ### comparisons -/
def sCmp (h : Int → Int → Bool) : D → D → (D → Prop) → XD → Prop := sI0 fun i j => .bl (h i j)
theorem sem_cmp {K : PySem.W.Frag} {h : Int → Int → Bool} : Sem2 K (rI0 fun i j => .bl (h i j)) (sCmp h) := sem_I0 fun i j _ => .bl (h i j)
def lt' (i j : Int) : Bool := decide (i < j)
def le' (i j : Int) : Bool := decide (i ≤ j)
def gt' (i j : Int) : Bool := decide (j < i)
def ge' (i j : Int) : Bool := decide (j ≤ i)
/-- one comparison's operator on data -/
def CmpD (X : Cx) (op : CmpOp) (sem : D → D → (D → Prop) → XD → Prop) : Prop := ∃ r, OpR X (compareOp op) r ∧ Sem2 X.K r sem
theorem cd_lt : CmpD X .Lt (sCmp lt') := ⟨_, op_lt, sem_cmp⟩
theorem cd_le : CmpD X .LtE (sCmp le') := ⟨_, op_le, sem_cmp⟩
theorem cd_gt : CmpD X .Gt (sCmp gt') := ⟨_, op_gt, sem_cmp⟩
theorem cd_ge : CmpD X .GtE (sCmp ge') := ⟨_, op_ge, sem_cmp⟩
/-- ==, neg: != -/
def sEq (neg : Bool) : D → D → (D → Prop) → XD → Prop := fun a b q _ => match a, b with
  | .int i, .int j => q (.bl (neg ^^ decide (i = j)))
  | .str i, .str j => q (.bl (neg ^^ decide (i = j)))
  | a, b => a.ok = true ∧ b.ok = true ∧ a.dep ≤ 64 ∧ b.dep ≤ 64 ∧ q (.bl (neg ^^ eqD a b))
theorem sem_eq {K : PySem.W.Frag} : Sem2 K (fun x y H Q => rEq x y H Q ∨ rEqD K x y H Q) (sEq false) := by
  intro g E H F v w a b q x Q r ia ib hs hq hx
  unfold sEq at hs
  split at hs
  · rename_i i j
    rw [ia.int, ib.int]
    refine .inl ⟨rfl, ?_⟩
    have e : decide (V.int i = V.int j) = (false ^^ decide (i = j)) := by rw [dec_int, Bool.false_xor, Bool.beq_eq_decide_eq]
    rw [e]
    exact hq _ H F _ r (.bl _) hs
  · rename_i i j
    rw [ia.str, ib.str]
    refine .inl ⟨rfl, ?_⟩
    have e : decide (V.str i = V.str j) = (false ^^ decide (i = j)) := by rw [dec_str, Bool.false_xor, Bool.beq_eq_decide_eq]
    rw [e]
    exact hq _ H F _ r (.bl _) hs
  · obtain ⟨o1, o2, d1, d2, hs⟩ := hs
    refine .inr ⟨_, _, ia.dp r.sub o1, ib.dp r.sub o2, D.shaped o1 d1, D.shaped o2 d2, ?_⟩
    rw [Bool.false_xor] at hs
    exact hq _ H F _ r (.bl _) hs
theorem sem_ne {K : PySem.W.Frag} : Sem2 K (fun x y H Q => rNe x y H Q ∨ rNeD K x y H Q) (sEq true) := by
  intro g E H F v w a b q x Q r ia ib hs hq hx
  unfold sEq at hs
  split at hs
  · rename_i i j
    rw [ia.int, ib.int]
    refine .inl ⟨rfl, ?_⟩
    have e : (!decide (V.int i = V.int j)) = (true ^^ decide (i = j)) := by rw [dec_int, Bool.true_xor, Bool.beq_eq_decide_eq]
    rw [e]
    exact hq _ H F _ r (.bl _) hs
  · rename_i i j
    rw [ia.str, ib.str]
    refine .inl ⟨rfl, ?_⟩
    have e : (!decide (V.str i = V.str j)) = (true ^^ decide (i = j)) := by rw [dec_str, Bool.true_xor, Bool.beq_eq_decide_eq]
    rw [e]
    exact hq _ H F _ r (.bl _) hs
  · obtain ⟨o1, o2, d1, d2, hs⟩ := hs
    refine .inr ⟨_, _, ia.dp r.sub o1, ib.dp r.sub o2, D.shaped o1 d1, D.shaped o2 d2, ?_⟩
    rw [Bool.true_xor] at hs
    exact hq _ H F _ r (.bl _) hs
theorem cd_eq (hu : X.A.units + 64 < cLine) : CmpD X .Eq (sEq false) := ⟨_, op_eq.or (op_eqD hu), sem_eq⟩
theorem cd_ne (hu : X.A.units + 64 < cLine) : CmpD X .NotEq (sEq true) := ⟨_, op_ne.or (op_neD hu), sem_ne⟩
/-- in, neg: not in; of a tuple or a list of data -/
def sIn (neg : Bool) : D → D → (D → Prop) → XD → Prop := fun a b q _ => match b with
  | .tup ys => a.ok = true ∧ D.oks ys = true ∧ a.dep ≤ 64 ∧ D.deps ys ≤ 63 ∧ q (.bl (neg ^^ ys.any fun y => eqD y a))
  | .lst ys => a.ok = true ∧ D.oks ys = true ∧ a.dep ≤ 64 ∧ D.deps ys ≤ 63 ∧ q (.bl (neg ^^ ys.any fun y => eqD y a))
  | _ => False
def rInDD (K : PySem.W.Frag) (neg : Bool) : R2 := fun x y H Q => ∃ d ds, Dp K H x d ∧ (Dp K H y (.tuple ds) ∨ Dp K H y (.list ds)) ∧ SeqAt.shaped d = true ∧ SeqAt.shaped (.list ds) = true ∧ SeqAt.shaped (.tuple ds) = true ∧ Q (.bl (neg ^^ ds.any fun y => PyData.eqv y d)) H
theorem op_inDD (hu : X.A.units + 65 < cLine) : OpR X (compareOp .In) (rInDD X.K false) := by
  intro pins s σ H x y v u Q I rx ry h
  obtain ⟨d, ds, hd, he, sd, se, st, q⟩ := h
  rw [Bool.false_xor] at q
  obtain ⟨as, r1⟩ := Dp.reads I d x v hd rx
  rcases he with he | he
  · obtain ⟨bs, r2⟩ := Dp.reads I (.tuple ds) y u he ry
    exact SeqAt.in_tuple_reads r2 r1 (SeqAt.canLay_of_shaped st) (SeqAt.canLay_of_shaped sd) (PyProof.Rows.room_in_shaped sd hu) ⟨.bl _, H, I, rfl, q⟩
  · obtain ⟨bs, r2⟩ := Dp.reads I (.list ds) y u he ry
    exact SeqAt.in_list_reads r2 r1 (SeqAt.canLay_of_shaped se) (SeqAt.canLay_of_shaped sd) (PyProof.Rows.room_in_shaped sd hu) ⟨.bl _, H, I, rfl, q⟩
theorem op_notInDD (hu : X.A.units + 65 < cLine) : OpR X (compareOp .NotIn) (rInDD X.K true) := by
  intro pins s σ H x y v u Q I rx ry h
  obtain ⟨d, ds, hd, he, sd, se, st, q⟩ := h
  rw [Bool.true_xor] at q
  obtain ⟨as, r1⟩ := Dp.reads I d x v hd rx
  rcases he with he | he
  · obtain ⟨bs, r2⟩ := Dp.reads I (.tuple ds) y u he ry
    exact SeqAt.notIn_tuple_reads r2 r1 (SeqAt.canLay_of_shaped st) (SeqAt.canLay_of_shaped sd) (PyProof.Rows.room_in_shaped sd hu) ⟨.bl _, H, I, rfl, q⟩
  · obtain ⟨bs, r2⟩ := Dp.reads I (.list ds) y u he ry
    exact SeqAt.notIn_list_reads r2 r1 (SeqAt.canLay_of_shaped se) (SeqAt.canLay_of_shaped sd) (PyProof.Rows.room_in_shaped sd hu) ⟨.bl _, H, I, rfl, q⟩
theorem D.pys_any (d : PyData) : ∀ ys : List D, (D.pys ys).any (fun y => PyData.eqv y d) = ys.any fun y => PyData.eqv y.py d
  | [] => rfl
  | y :: ys => by
    show (PyData.eqv y.py d || (D.pys ys).any fun y => PyData.eqv y d) = (PyData.eqv y.py d || ys.any fun y => PyData.eqv y.py d)
    rw [D.pys_any d ys]
theorem D.shapeds {ys : List D} (h : D.oks ys = true) (h2 : D.deps ys ≤ 63) : SeqAt.shaped (.list (D.pys ys)) = true ∧ SeqAt.shaped (.tuple (D.pys ys)) = true :=
  ⟨D.shaped (d := .lst ys) h (by show D.deps ys + 1 ≤ 64; omega), D.shaped (d := .tup ys) h (by show D.deps ys + 1 ≤ 64; omega)⟩
theorem sem_in {K : PySem.W.Frag} {neg : Bool} : Sem2 K (rInDD K neg) (sIn neg) := by
  intro g E H F v w a b q x Q r ia ib hs hq hx
  unfold sIn at hs
  split at hs
  · rename_i ys
    obtain ⟨o1, o2, d1, d2, hs⟩ := hs
    obtain ⟨s1, s2⟩ := D.shapeds o2 d2
    have i2 : Dp K H w (D.py (.tup ys)) := ib.dp r.sub o2
    refine ⟨_, D.pys ys, ia.dp r.sub o1, .inl i2, D.shaped o1 d1, s1, s2, ?_⟩
    rw [D.pys_any]
    exact hq _ H F _ r (.bl _) hs
  · rename_i ys
    obtain ⟨o1, o2, d1, d2, hs⟩ := hs
    obtain ⟨s1, s2⟩ := D.shapeds o2 d2
    have i2 : Dp K H w (D.py (.lst ys)) := ib.dp r.sub o2
    refine ⟨_, D.pys ys, ia.dp r.sub o1, .inr i2, D.shaped o1 d1, s1, s2, ?_⟩
    rw [D.pys_any]
    exact hq _ H F _ r (.bl _) hs
  · exact hs.elim
theorem cd_in (hu : X.A.units + 65 < cLine) : CmpD X .In (sIn false) := ⟨_, op_inDD hu, sem_in⟩
theorem cd_notIn (hu : X.A.units + 65 < cLine) : CmpD X .NotIn (sIn true) := ⟨_, op_notInDD hu, sem_in⟩
/-- is None, is not None -/
def D.isNon : D → Bool
  | .non => true
  | _ => false
def sIsN (neg : Bool) : D → D → (D → Prop) → XD → Prop := fun a b q _ => match b with
  | .non => q (.bl (neg ^^ a.isNon))
  | _ => False
theorem IsB.non {K : PySem.W.Frag} {g : Gd} {F H : Hp} {v : V} (h : IsB K g F H v .non) : v = .non := by
  rcases h with h | ⟨_, _, _, _, _, z⟩
  · cases h; rfl
  · cases z
theorem IsB.isNon {K : PySem.W.Frag} {g : Gd} {F H : Hp} {v : V} {a : D} (h : IsB K g F H v a) : decide (v = .non) = a.isNon := by
  rcases h with h | ⟨_, _, rfl, _, _, z⟩
  · cases h <;> rfl
  · cases z <;> rfl
theorem cd_isN : CmpD X .Is (sIsN false) := ⟨_, op_isN, fun g E H F v w a b q x Q r ia ib hs hq hx => by
  unfold sIsN at hs
  split at hs
  · rw [Bool.false_xor, ← ia.isNon] at hs
    exact ⟨ib.non, hq _ H F _ r (.bl _) hs⟩
  · exact hs.elim⟩
theorem cd_isNotN : CmpD X .IsNot (sIsN true) := ⟨_, op_notN, fun g E H F v w a b q x Q r ia ib hs hq hx => by
  unfold sIsN at hs
  split at hs
  · rw [Bool.true_xor, ← ia.isNon] at hs
    exact ⟨ib.non, hq _ H F _ r (.bl _) hs⟩
  · exact hs.elim⟩
theorem de_cmp {op : CmpOp} {sem : D → D → (D → Prop) → XD → Prop} (c : CmpD X op sem) (ha : DB X g E m a fa) (hb : DB X g E m b fb) (hm : behindInMarks op b = false := by first | exact nomark _ | rfl) :
    DE X g E m (.Compare a [op] [b] pos) (f2 sem fa fb) := by
  obtain ⟨r, c1, c2⟩ := c
  exact de_2 (pe_cmpR c1 ha hb hm) c2
/-! ### tests -/
/-- data as a test: a truth value -/
def fTest (f : FE) : FT := fun ρ q x => f ρ (fun d => match d with | .bl b => q b | _ => False) x
theorem dt_of {e : Expr} {f : FE} (h : PE X e (tE X.K g E m f)) (hp : ∀ t, PE X e t → PT X e (L2.tB t)) : DT X g E m e (fTest f) := PTimp (hp _ h) fun σ H Q ⟨H0, F0, F, ρ, q, x, R, hf, hq, hx⟩ =>
  ⟨H0, F0, F, ρ, _, x, R, hf, fun v H' F' d r i hd => by
    split at hd
    · rename_i b
      cases i
      exact ⟨b, rfl, hq b H' F' r hd⟩
    · exact hd.elim, hx⟩
/-- a call, a name: a truth value by itself -/
theorem dt_val {e : Expr} {f : FE} (h : DE X g E m e f) (he : ∀ whole, isTrue e X.env whole = (do let v ← whole; standAt e.pos; holding [v] (truthy v)) := by intro _; rfl) : DT X g E m e (fTest f) := dt_of h fun t ht => pt_val ht he
theorem dt_cmp {op : CmpOp} {sem : D → D → (D → Prop) → XD → Prop} (c : CmpD X op sem) (ha : DB X g E m a fa) (hb : DB X g E m b fb) (hm : behindInMarks op b = false := by first | exact nomark _ | rfl) :
    DT X g E m (.Compare a [op] [b] pos) (fTest (f2 sem fa fb)) := by
  obtain ⟨r, c1, c2⟩ := c
  refine PTimp (pt_cmpR c1 ha hb hm) fun σ H Q ⟨H0, F0, F, ρ, q, x, R, hf, hq, hx⟩ => ?_
  refine ⟨H0, F0, F, ρ, _, x, R, hf, fun v H1 F1 d r1 i1 hb => ?_, hx⟩
  refine ⟨H0, F0, F1, ρ, _, x, R.step r1, hb, fun w H2 F2 d2 r2 i2 hs2 => ?_, hx.step r1⟩
  refine c2 g E H2 F2 v w d d2 _ x _ ((R.step r1).step r2).fr.self (i1.up r2) i2 hs2 (fun u H' F' d' r3 i3 hd => ?_) ((hx.step r1).step r2)
  split at hd
  · rename_i b
    cases i3
    exact ⟨b, rfl, hq b H' F' (r1.trans (r2.trans r3)) hd⟩
  · exact hd.elim
def gNot (f : FT) : FT := fun ρ q x => f ρ (fun b => q (!b)) x
def gAnd (f f' : FT) : FT := fun ρ q x => f ρ (fun b => if b = true then f' ρ q x else q false) x
def gOr (f f' : FT) : FT := fun ρ q x => f ρ (fun b => if b = true then q true else f' ρ q x) x
variable {f f' : FT} {rest : List Expr}
theorem dt_not (h : DT X g E m a f) : DT X g E m (.UnaryOp .Not a pos) (gNot f) := PTimp (pt_not h) fun σ H Q ⟨H0, F0, F, ρ, q, x, R, hf, hq, hx⟩ =>
  ⟨H0, F0, F, ρ, _, x, R, hf, fun b H' F' r hb => hq _ H' F' r hb, hx⟩
theorem dw_and1 (h : DT X g E m a f) : DW X g E m (.BoolOp .And [a] pos) f := pw_and1 h
theorem dw_or1 (h : DT X g E m a f) : DW X g E m (.BoolOp .Or [a] pos) f := pw_or1 h
theorem dw_and (h : DT X g E m a f) (h' : DW X g E m (.BoolOp .And (b :: rest) pos) f') : DW X g E m (.BoolOp .And (a :: b :: rest) pos) (gAnd f f') := PWimp (pw_and h h') fun σ H Q ⟨H0, F0, F, ρ, q, x, R, hf, hq, hx⟩ =>
  ⟨H0, F0, F, ρ, _, x, R, hf, fun b H' F' r hb => by
    cases b with
    | true =>
      rw [if_pos rfl] at hb ⊢
      exact ⟨H0, F0, F', ρ, q, x, R.step r, hb, fun b H2 F2 r2 h2 => hq b H2 F2 (r.trans r2) h2, hx.step r⟩
    | false =>
      rw [if_neg Bool.false_ne_true] at hb ⊢
      exact hq _ H' F' r hb, hx⟩
theorem dw_or (h : DT X g E m a f) (h' : DW X g E m (.BoolOp .Or (b :: rest) pos) f') : DW X g E m (.BoolOp .Or (a :: b :: rest) pos) (gOr f f') := PWimp (pw_or h h') fun σ H Q ⟨H0, F0, F, ρ, q, x, R, hf, hq, hx⟩ =>
  ⟨H0, F0, F, ρ, _, x, R, hf, fun b H' F' r hb => by
    cases b with
    | false =>
      rw [if_neg Bool.false_ne_true] at hb ⊢
      exact ⟨H0, F0, F', ρ, q, x, R.step r, hb, fun b H2 F2 r2 h2 => hq b H2 F2 (r.trans r2) h2, hx.step r⟩
    | true =>
      rw [if_pos rfl] at hb ⊢
      exact hq _ H' F' r hb, hx⟩
theorem dw_pt {e : Expr} (h : DW X g E m e f) : DT X g E m e f := h.pt
/-- and, or, not as values, of truth values -/
def fBl (f : FT) : FE := fun ρ q x => f ρ (fun b => q (.bl b)) x
def hAnd (f f' : FE) : FE := fun ρ q x => f ρ (fun d => match d with | .bl b => if b = true then f' ρ q x else q (.bl false) | _ => False) x
def hOr (f f' : FE) : FE := fun ρ q x => f ρ (fun d => match d with | .bl b => if b = true then q (.bl true) else f' ρ q x | _ => False) x
def hNot (f : FE) : FE := fun ρ q x => f ρ (fun d => match d with | .bl b => q (.bl (!b)) | _ => False) x
theorem de_one {op : BoolOp} (h : DE X g E m a fa) : DE X g E m (.BoolOp op [a] pos) fa := pe_one h
theorem de_and (h : DE X g E m a fa) (h' : DE X g E m (.BoolOp .And (b :: rest) pos) fb) : DE X g E m (.BoolOp .And (a :: b :: rest) pos) (hAnd fa fb) := PEimp (pe_and h h') fun σ H Q ⟨H0, F0, F, ρ, q, x, R, hf, hq, hx⟩ =>
  ⟨H0, F0, F, ρ, _, x, R, hf, fun v H' F' d r i hd => by
    split at hd
    · rename_i b
      cases i
      refine ⟨b, rfl, ?_⟩
      cases b with
      | true =>
        rw [if_pos rfl] at hd ⊢
        exact ⟨H0, F0, F', ρ, q, x, R.step r, hd, fun v H2 F2 d r2 i2 h2 => hq v H2 F2 d (r.trans r2) i2 h2, hx.step r⟩
      | false =>
        rw [if_neg Bool.false_ne_true] at hd ⊢
        exact hq _ H' F' _ r (.bl _) hd
    · exact hd.elim, hx⟩
theorem de_or (h : DE X g E m a fa) (h' : DE X g E m (.BoolOp .Or (b :: rest) pos) fb) : DE X g E m (.BoolOp .Or (a :: b :: rest) pos) (hOr fa fb) := PEimp (pe_or h h') fun σ H Q ⟨H0, F0, F, ρ, q, x, R, hf, hq, hx⟩ =>
  ⟨H0, F0, F, ρ, _, x, R, hf, fun v H' F' d r i hd => by
    split at hd
    · rename_i b
      cases i
      refine ⟨b, rfl, ?_⟩
      cases b with
      | false =>
        rw [if_neg Bool.false_ne_true] at hd ⊢
        exact ⟨H0, F0, F', ρ, q, x, R.step r, hd, fun v H2 F2 d r2 i2 h2 => hq v H2 F2 d (r.trans r2) i2 h2, hx.step r⟩
      | true =>
        rw [if_pos rfl] at hd ⊢
        exact hq _ H' F' _ r (.bl _) hd
    · exact hd.elim, hx⟩
theorem de_not (h : DE X g E m a fa) : DE X g E m (.UnaryOp .Not a pos) (hNot fa) := PEimp (pe_not h) fun σ H Q ⟨H0, F0, F, ρ, q, x, R, hf, hq, hx⟩ =>
  ⟨H0, F0, F, ρ, _, x, R, hf, fun v H' F' d r i hd => by
    split at hd
    · cases i
      exact ⟨_, rfl, hq _ H' F' _ r (.bl _) hd⟩
    · exact hd.elim, hx⟩
/-- a if t else b -/
def fIf (t : FT) (fa fb : FE) : FE := fun ρ q x => t ρ (fun c => if c = true then fa ρ q x else fb ρ q x) x
theorem de_if {c : Expr} (hc : DT X g E m c f) (ha : DE X g E m a fa) (hb : DE X g E m b fb) : DE X g E m (.IfExp c a b pos) (fIf f fa fb) := PEimp (pe_ifExp hc ha hb) fun σ H Q ⟨H0, F0, F, ρ, q, x, R, hf, hq, hx⟩ =>
  ⟨H0, F0, F, ρ, _, x, R, hf, fun c H' F' r hd => by
    cases c with
    | true =>
      rw [if_pos rfl] at hd ⊢
      exact ⟨H0, F0, F', ρ, q, x, R.step r, hd, fun v H2 F2 d r2 i2 h2 => hq v H2 F2 d (r.trans r2) i2 h2, hx.step r⟩
    | false =>
      rw [if_neg Bool.false_ne_true] at hd ⊢
      exact ⟨H0, F0, F', ρ, q, x, R.step r, hd, fun v H2 F2 d r2 i2 h2 => hq v H2 F2 d (r.trans r2) i2 h2, hx.step r⟩, hx⟩

/-! ### arguments, displays -/
def fNil : FA := fun _ q _ => q []
def fCons (f : FE) (r : FA) : FA := fun ρ q x => f ρ (fun d => r ρ (fun ds => q (d :: ds)) x) x
variable {e : Expr} {es : List Expr} {fe : FE} {fs : FA}
theorem da_nil : DA X g E m [] fNil := PAimp pa_nil fun σ H Q ⟨H0, F0, F, ρ, q, x, R, hf, hq, hx⟩ => hq [] H F [] R.fr.self .nil hf
theorem da_cons (h : DE X g E m e fe) (hr : DA X g E m es fs) (hs : starEach (e :: es) X.env = (false, eval e X.env) :: starEach es X.env := by rfl) : DA X g E m (e :: es) (fCons fe fs) := PAimp (pa_cons h hr hs) fun σ H Q ⟨H0, F0, F, ρ, q, x, R, hf, hq, hx⟩ =>
  ⟨H0, F0, F, ρ, _, x, R, hf, fun v H1 F1 d r1 i1 hd => ⟨H0, F0, F1, ρ, _, x, R.step r1, hd, fun vs H2 F2 ds r2 i2 h2 => hq _ H2 F2 _ (r1.trans r2) (.cons (i1.up r2.f0) i2) h2, hx.step r1⟩, hx⟩
def fTup (f : FA) : FE := fun ρ q x => f ρ (fun ds => ds.length ≤ LN ∧ q (.tup ds)) x
def fLst (f : FA) : FE := fun ρ q x => f ρ (fun ds => ds.length ≤ LN ∧ q (.lst ds)) x
theorem de_tup {k : Nat} (h : DA X g E m es fs) : DE X g E m (.Tuple es k pos) (fTup fs) := PEimp (pe_tup h) fun σ H Q ⟨H0, F0, F, ρ, q, x, R, hf, hq, hx⟩ =>
  ⟨H0, F0, F, ρ, _, x, R, hf, fun vs H1 F1 ds r1 i1 hd => ⟨LN_line (by rw [i1.length]; exact hd.1), fun p hp => hq _ _ (upd F1 p (.tup vs)) _ (r1.trans ((R.step r1).fr.new hp)) (.tup (.inl upd_same) (i1.up ((R.step r1).fr.new (o := .tup vs) hp).f0)) hd.2⟩, hx⟩
theorem df_lst (h : DA X g E m es fs) : DF X g E m (.List es pos) (fLst fs) := PEimp (pe_lst h) fun σ H Q ⟨H0, F0, F, ρ, q, x, R, hf, hq, hx⟩ =>
  ⟨H0, F0, F, ρ, _, x, R, hf, fun vs H1 F1 ds r1 i1 hd => ⟨LN_line (by rw [i1.length]; exact hd.1), fun p hp => hq p _ F1 _ _ (r1.trans ((R.step r1).fr.newO hp)) (r1.back hp) upd_same ((R.step r1).fr.freeF hp) i1 hd.2⟩, hx⟩

/-! ### subscripts -/
def sIx : D → D → (D → Prop) → XD → Prop := fun a b q _ => match a, b with
  | .tup xs, .int i => match atI xs i with | some d => q d | none => False
  | .lst xs, .int i => match atI xs i with | some d => q d | none => False
  | _, _ => False
theorem IsAll.at {K : PySem.W.Frag} {F : Hp} {vs : List V} {ds : List D} (h : IsAll K F vs ds) {i : Int} {d : D} (e : atI ds i = some d) : ∃ v, atI vs i = some v ∧ Is K F v d := by
  unfold atI at e ⊢
  rw [h.length]
  cases hi : ixN ds.length i with
  | none => rw [hi] at e; cases e
  | some j =>
    rw [hi] at e
    exact h.get (show ds[j]? = some d from e)
theorem IsB.lst' {K : PySem.W.Frag} {g : Gd} {F H : Hp} {v : V} {ds : List D} (s : Ex F H) (h : IsB K g F H v (.lst ds)) : ∃ a xs, v = .ref a ∧ SqL K H a xs ∧ IsAll K F xs ds := by
  obtain ⟨a, xs, h1, h2, h3⟩ := h.lst s
  exact ⟨a, xs, h1, .inl (.inl h2), h3⟩
theorem sem_ix {K : PySem.W.Frag} : Sem2 K (rIx K) sIx := by
  intro g E H F v w a b q x Q r ia ib hs hq hx
  unfold sIx at hs
  split at hs
  · split at hs
    · rename_i d e
      obtain ⟨p, ys, rfl, h1, h2⟩ := ia.tup
      obtain ⟨y, e1, e2⟩ := h2.at e
      exact .inr (.inl ⟨_, _, _, _, rfl, ib.int, r.sub.sqT h1.sqT, e1, hq _ H F _ r e2 hs⟩)
    · exact hs.elim
  · split at hs
    · rename_i d e
      obtain ⟨p, ys, rfl, h1, h2⟩ := ia.lst' r.sub
      obtain ⟨y, e1, e2⟩ := h2.at e
      exact .inl ⟨_, _, _, _, rfl, ib.int, h1, e1, hq _ H F _ r e2 hs⟩
    · exact hs.elim
  · exact hs.elim
theorem de_ix (ha : DB X g E m a fa) (hb : DB X g E m b fb) (hs : PlainIx b := by exact fun _ _ => rfl) : DE X g E m (.Subscript a b pos) (f2 sIx fa fb) := de_2 (pe_ix ix_seq ha hb hs) sem_ix
/-- a slice's part -/
abbrev FO := Ro → (Option Int → Prop) → XD → Prop
def tO' (K : PySem.W.Frag) (g : Gd) (E : XK) (m : List Nat) (f : FO) : TO := fun σ H Q => ∃ H0 F0 F ρ q x, Rel K g H0 F0 m σ H F ρ ∧ f ρ q x ∧
  (∀ o H' F', Fr g H F H' F' → q o → Q o H') ∧ XE K g H F x E
abbrev DO (X : Cx) (g : Gd) (E : XK) (m : List Nat) (e : Option Expr) (f : FO) : Prop := PO X e (tO' X.K g E m f)
theorem POimp {e : Option Expr} {t t' : TO} (h : PO X e t) (i : ∀ σ H Q, t' σ H Q → t σ H Q) : PO X e t' := ⟨fun pins s σ H Q I q => h.run pins s σ H Q I (i σ H Q q)⟩
def fNo : FO := fun _ q _ => q none
def fPart (f : FE) : FO := fun ρ q x => f ρ (fun d => match d with | .int i => q (some i) | _ => False) x
theorem do_none : DO X g E m none fNo := POimp po_none fun σ H Q ⟨H0, F0, F, ρ, q, x, R, hf, hq, hx⟩ => hq none H F R.fr.self hf
theorem do_some (h : DE X g E m e fe) : DO X g E m (some e) (fPart fe) := POimp (po_some h) fun σ H Q ⟨H0, F0, F, ρ, q, x, R, hf, hq, hx⟩ =>
  ⟨H0, F0, F, ρ, _, x, R, hf, fun v H' F' d r i hd => by
    split at hd
    · cases i
      exact ⟨_, rfl, hq _ H' F' r hd⟩
    · exact hd.elim, hx⟩
def cutD (xs : List D) (lo hi : Option Int) : List D := (xs.drop (HT.sIx xs.length 0 lo)).take (HT.sIx xs.length xs.length hi - HT.sIx xs.length 0 lo)
theorem IsAll.cut {K : PySem.W.Frag} {F : Hp} {vs : List V} {ds : List D} (h : IsAll K F vs ds) (lo hi : Option Int) : IsAll K F (cutV vs lo hi) (cutD ds lo hi) := by
  unfold cutV cutD
  rw [h.length]
  exact (h.drop _).take _
def fSl (f : FE) (l u : FO) : FE := fun ρ q x => f ρ (fun d => l ρ (fun lo => u ρ (fun hi => match d with
  | .tup xs => q (.tup (cutD xs lo hi))
  | .lst xs => q (.lst (cutD xs lo hi))
  | _ => False) x) x) x
def rSl2 (K : PySem.W.Frag) : V → Option Int → Option Int → Hp → VK → Prop := fun x lo hi H Q => rSlA K x lo hi H Q ∨ rSlL K x lo hi H Q
theorem cutD_all {xs : List D} {lo hi : Option Int} (h : HT.sIx xs.length 0 lo = 0 ∧ HT.sIx xs.length xs.length hi = xs.length) : cutD xs lo hi = xs := by
  unfold cutD
  rw [h.1, h.2, List.drop_zero, Nat.sub_zero, List.take_length]
theorem de_sl {lo hi : Option Expr} {fl fu : FO} {p2 : Pos} (h : DB X g E m e fe) (hl : DO X g E m lo fl) (hu : DO X g E m hi fu) : DE X g E m (.Subscript e (.Slice lo hi none p2) pos) (fSl fe fl fu) :=
  PEimp (pe_slice (sl_tupA.or sl_list) h hl hu) fun σ H Q ⟨H0, F0, F, ρ, q, x, R, hf, hq, hx⟩ => by
  refine ⟨H0, F0, F, ρ, _, x, R, hf, fun v H1 F1 d r1 i1 hb => ?_, hx⟩
  refine ⟨H0, F0, F1, ρ, _, x, R.step r1, hb, fun l H2 F2 r2 hs2 => ?_, hx.step r1⟩
  refine ⟨H0, F0, F2, ρ, _, x, (R.step r1).step r2, hs2, fun u H3 F3 r3 hs3 => ?_, (hx.step r1).step r2⟩
  have R3 := ((R.step r1).step r2).step r3
  have i3 := (i1.up r2).up r3
  split at hs3
  · rename_i ds
    obtain ⟨p, ys, rfl, h1, h2⟩ := i3.tup
    have hl := h2.length
    refine .inl ⟨_, _, rfl, R3.fr.sub.sqT h1.sqT, fun z => ?_, fun z p hp => ?_⟩
    · rw [hl] at z
      rw [cutD_all z] at hs3
      exact hq _ H3 F3 _ (r1.trans (r2.trans r3)) (.tup h1 h2) hs3
    · exact hq _ _ (upd F3 p _) _ (r1.trans (r2.trans (r3.trans (R3.fr.new hp)))) (.tup (.inl upd_same) ((h2.cut l u).up (R3.fr.new (o := .tup (cutV ys l u)) hp).f0)) hs3
  · rename_i ds
    obtain ⟨p, ys, rfl, h1, h2⟩ := i3.lst' R3.fr.sub
    exact .inr ⟨_, _, rfl, h1, fun p hp => hq _ _ (upd F3 p _) _ (r1.trans (r2.trans (r3.trans (R3.fr.new hp)))) (.lst upd_same ((h2.cut l u).up (R3.fr.new (o := .lst (cutV ys l u)) hp).f0)) hs3⟩
  · exact hs3.elim
end
end DL

/-! DL19: repr of data, dicts among them. (Built behind DL3, ahead of DL4.) -/
namespace DL
open PySem L2
section
variable {X : Cx} {pins : List (Addr × Obj)} {σ : St} {H : Hp} {s : Shared}
/-- what the repr of u is shown to be, its objects all read -/
def Rk (P : Program) (w : World) (h : Heap) (u : Value) (d : PyData) : Prop := ∃ as bs, Reads h u d as ∧ ReadAtMost h d.depth bs ∧ ReprK P w bs h d.depth u d.shown
def Rks (P : Program) (w : World) (h : Heap) (us : List Value) (ds : List PyData) : Prop := ∃ as bs, ReadsAll h us ds as ∧ ReadAtMost h (PyData.depthAll ds) bs ∧ ReprAllK P w bs h (PyData.depthAll ds) us (PyData.shownAll ds)
theorem Rks.nil {P : Program} {w : World} {h : Heap} : Rks P w h [] [] := ⟨_, [], .nil, (fun _ h => nomatch h), .nil⟩
theorem Rks.cons {P : Program} {w : World} {h : Heap} {u : Value} {us : List Value} {d : PyData} {ds : List PyData} (h1 : Rk P w h u d) (h2 : Rks P w h us ds) : Rks P w h (u :: us) (d :: ds) := by
  obtain ⟨as, b1, r, hb1, k1⟩ := h1
  obtain ⟨as', b2, rs, hb2, k2⟩ := h2
  refine ⟨_, b1 ++ b2, .cons r rs, (hb1.mono (Nat.le_max_left _ _)).append (hb2.mono (Nat.le_max_right _ _)), ?_⟩
  exact .cons ((k1.more fun b hb => List.mem_append_left _ hb).level_le (Nat.le_max_left _ _)) (k2.more_le (fun b hb => List.mem_append_right _ hb) (Nat.le_max_right _ _))
/-- the parts of a list, a tuple: what its own repr asks -/
theorem rk_list {P : Program} {w : World} {h : Heap} {a : Addr} {its : Array Value} {ds : List PyData} (pl : PlainL h a its) (r : Rks P w h its.toList ds) : Rk P w h (.ref a) (.list ds) := by
  obtain ⟨o, n, h1, h2, _, h3⟩ := pl
  obtain ⟨as, bs, rd, hb, hk⟩ := r
  have r : Reads h (.ref a) (.list ds) _ := .list h1 h2 h3 rd
  have hna : a ∉ bs := not_mem_of_deeper r (by simp only [PyData.depth]; omega) hb
  refine ⟨_, a :: bs, r, ReadAtMost.cons r (by simp only [PyData.depth]; omega) hb, ?_⟩
  simp only [PyData.depth, PyData.shown]
  obtain ⟨l⟩ := its
  cases l with
  | nil =>
    have rd' : ReadsAll h [] ds _ := rd
    cases rd'
    simp only [PyData.shownAll, listText_nil]
    exact ReprK.listEmpty h1 h2 h3
  | cons x l => exact ReprK.list h1 h2 h3 hna (by simpa using hk.length_eq) (fun i y e => hk.item i y (by simpa using e))
theorem rk_tup {P : Program} {w : World} {h : Heap} {a : Addr} {its : Array Value} {ds : List PyData} (pl : Heap.IsTuple h a its) (r : Rks P w h its.toList ds) : Rk P w h (.ref a) (.tuple ds) := by
  obtain ⟨o, h1, h2, n, h3⟩ := pl
  obtain ⟨as, bs, rd, hb, hk⟩ := r
  have r : Reads h (.ref a) (.tuple ds) _ := .tuple h1 h2 h3 rd
  have hna : a ∉ bs := not_mem_of_deeper r (by simp only [PyData.depth]; omega) hb
  refine ⟨_, a :: bs, r, ReadAtMost.cons r (by simp only [PyData.depth]; omega) hb, ?_⟩
  simp only [PyData.depth, PyData.shown]
  exact ReprK.tuple h1 h2 h3 hna hk
theorem zip_fst {α β : Type} : ∀ (l : List α) (r : List β), l.length = r.length → (l.zip r).map (·.1) = l
  | [], _, _ => by rw [List.zip_nil_left]; rfl
  | a :: l, [], h => by cases h
  | a :: l, b :: r, h => by rw [List.zip_cons_cons, List.map_cons, zip_fst l r (Nat.succ.inj h)]
theorem zip_snd {α β : Type} : ∀ (l : List α) (r : List β), l.length = r.length → (l.zip r).map (·.2) = r
  | [], [], _ => rfl
  | [], b :: r, h => by cases h
  | a :: l, [], h => by cases h
  | a :: l, b :: r, h => by rw [List.zip_cons_cons, List.map_cons, zip_snd l r (Nat.succ.inj h)]
theorem rk_dict {P : Program} {w : World} {h : Heap} {a : Addr} {o : Obj} {es : Array DictEntry} {n : Nat} {ks ds : List PyData} (h1 : h.get? a = some o) (h2 : o.cls = .type "dict") (h3 : o.data = .dict es n) (hsys : (a == sysModules) = false) (hl : ks.length = ds.length)
    (rk : Rks P w h (es.toList.map (·.key)) ks) (rv : Rks P w h (es.toList.map (·.val)) ds) : Rk P w h (.ref a) (.dict (ks.zip ds)) := by
  have e1 := zip_fst ks ds hl
  have e2 := zip_snd ks ds hl
  generalize ks.zip ds = kvs at e1 e2
  subst e1
  subst e2
  obtain ⟨as, b1, rd1, hb1, k1⟩ := rk
  obtain ⟨as', b2, rd2, hb2, k2⟩ := rv
  have r : Reads h (.ref a) (.dict kvs) _ := .dict h1 h2 h3 rd1 rd2
  have hb : ReadAtMost h (PyData.depthKv kvs) (b1 ++ b2) := (hb1.mono (PyData.depthAll_keys_le kvs)).append (hb2.mono (PyData.depthAll_vals_le kvs))
  have hna : a ∉ b1 ++ b2 := not_mem_of_deeper r (by simp only [PyData.depth]; omega) hb
  refine ⟨_, a :: (b1 ++ b2), r, ReadAtMost.cons r (by simp only [PyData.depth]; omega) hb, ?_⟩
  simp only [PyData.depth, PyData.shown, PyData.shownKv_eq]
  exact ReprK.dict h1 h2 h3 hsys hna (ReprEntriesK.of_two es.toList _ _
    (k1.more_le (fun b hb => List.mem_append_left _ hb) (PyData.depthAll_keys_le kvs)) (k2.more_le (fun b hb => List.mem_append_right _ hb) (PyData.depthAll_vals_le kvs)))
theorem rk_int {P : Program} {w : World} {h : Heap} {i : Int} {t : Tok} (hs : i.natAbs.log2 < 1920) : Rk P w h (.int i t) (.int i) := ⟨_, [], .int i t, (fun _ h => nomatch h), .of_is (ReprIs.int t hs) _ _ _⟩
theorem rk_str {P : Program} {w : World} {h : Heap} {x : Str} {t : Tok} (hz : (PyData.str x).shown.length ≤ sizeLine) : Rk P w h (.str x t) (.str x) := ⟨_, [], .str x t, (fun _ h => nomatch h), .of_is (ReprIs.str x t hz) _ _ _⟩
theorem shown_mem : ∀ {l : List PyData} {d : PyData}, d ∈ l → d.shown ∈ PyData.shownAll l
  | [], _, h => nomatch h
  | x :: l, d, h => by
    show d.shown ∈ x.shown :: PyData.shownAll l
    rcases List.mem_cons.mp h with e | h
    · rw [e]; exact List.mem_cons_self ..
    · exact List.mem_cons_of_mem _ (shown_mem h)
/-- the keys of a dict -/
theorem rk_keys {P : Program} {w : World} {h : Heap} : ∀ {es : List DictEntry} {vs : List (Key × Value)} {ks : List Key}, Pairs (mixKind P w) es vs → vs.map (·.1) = ks → ks.all keyOk = true → (∀ k ∈ ks, (keyPy k).shown.length ≤ sizeLine) → Rks P w h (es.map (·.key)) (ks.map keyPy)
  | [], [], [], _, _, _, _ => Rks.nil
  | [], [], k :: ks, _, e, _, _ => by cases e
  | e :: es, v :: vs, [], _, z, _, _ => by cases z
  | [], v :: vs, _, p, _, _, _ => by cases p
  | e :: es, [], _, p, _, _, _ => by cases p
  | e :: es, v :: vs, k :: ks, p, z, o, hz => by
    cases p with
    | cons h1 h2 h3 =>
      rw [List.map_cons] at z
      injection z with z1 z2
      rw [List.all_cons, Bool.and_eq_true] at o
      refine Rks.cons ?_ (rk_keys h3 z2 o.2 fun k hk => hz k (List.mem_cons_of_mem _ hk))
      rw [z1] at h1
      rcases keyIs_shape h1 with ⟨i, t, e1, e2⟩ | ⟨x, t, e1, e2⟩
      · subst e1
        show Rk P w h e.key _
        rw [e2]
        exact rk_int (of_decide_eq_true o.1)
      · subst e1
        show Rk P w h e.key _
        rw [e2]
        exact rk_str (hz _ (List.mem_cons_self ..))
theorem pairs_vals {P : Program} {w : World} : ∀ {es : List DictEntry} {vs : List (Key × Value)}, Pairs (mixKind P w) es vs → es.map (·.val) = vs.map (·.2)
  | [], [], _ => rfl
  | _ :: _, _ :: _, h => by
    cases h with
    | cons h1 h2 h3 => rw [List.map_cons, List.map_cons, h2, pairs_vals h3]
  | [], v :: vs, p => by cases p
  | e :: es, [], p => by cases p
theorem kv_split : ∀ {ks : List Key} {xs : List V} {vs : List (Key × Value)}, ks.length = xs.length → KV (ks.zip xs) vs → vs.map (·.1) = ks ∧ Vals xs (vs.map (·.2))
  | [], [], vs, _, h => by
    rw [List.zip_nil_left] at h
    cases h
    exact ⟨rfl, .nil⟩
  | [], x :: xs, _, h, _ => by cases h
  | k :: ks, [], _, h, _ => by cases h
  | k :: ks, x :: xs, vs, h, r => by
    rw [List.zip_cons_cons] at r
    cases r with
    | cons h1 h2 =>
      obtain ⟨e1, e2⟩ := kv_split (Nat.succ.inj h) h2
      rw [List.map_cons, List.map_cons, e1]
      exact ⟨by rw [← h1.1], .cons h1.2 e2⟩
mutual
theorem Is.rk (I : Inv X pins σ H s) : ∀ (d : D) (v : V) (u : Value), d.okR = true → d.shows = true → Is X.K H v d → RelV v u → d.py.shown.length ≤ sizeLine → Rk X.prog X.w s.heap u d.py
  | .non, _, _, _, _, h, r, _ => by
    cases h
    cases r
    exact ⟨_, [], Reads.none, (fun _ h => nomatch h), .of_is ReprIs.none _ _ _⟩
  | .bl b, _, _, _, _, h, r, _ => by
    cases h
    cases r
    exact ⟨_, [], Reads.bool b, (fun _ h => nomatch h), .of_is (ReprIs.bool b) _ _ _⟩
  | .int i, _, _, _, hs, h, r, _ => by
    cases h
    obtain ⟨t, rfl⟩ := r
    exact rk_int (of_decide_eq_true hs)
  | .str x, _, _, _, _, h, r, hz => by
    cases h
    obtain ⟨t, rfl⟩ := r
    exact rk_str hz
  | .ref _, _, _, o, _, _, _, _ => by cases o
  | .tup ds, _, _, o, hs, h, r, hz => by
    cases h with
    | tup h1 h2 =>
      cases r
      obtain ⟨its, rv, pl, _⟩ := I.tuple h1.sqT
      exact rk_tup pl (IsAll.rk I ds _ _ o hs h2 rv fun t ht => Nat.le_trans (tupleText_mem_le ht) hz)
  | .lst ds, _, _, o, hs, h, r, hz => by
    cases h with
    | lst h1 h2 =>
      cases r
      obtain ⟨its, rv, pl, _⟩ := I.list (.inl (.inl h1))
      exact rk_list pl (IsAll.rk I ds _ _ o hs h2 rv fun t ht => Nat.le_trans (listText_mem_le ht) hz)
  | .dic ks ds, _, _, o, hs, h, r, hz => by
    cases h with
    | dic h1 h0 h2 =>
      cases r
      have o' : (ks.all keyOk && (decide (ks.length = ds.length) && D.oksR ds)) = true := o
      rw [Bool.and_eq_true, Bool.and_eq_true] at o'
      obtain ⟨_, hsys, vs, rel, ob, es, n, g1, g2, g3, _, g4, _⟩ := dk_of I.hok h1
      obtain ⟨e1, e2⟩ := kv_split h0 rel
      have hl : (ks.map keyPy).length = (D.pys ds).length := by rw [List.length_map, D.pys_length]; exact of_decide_eq_true o'.2.1
      have z1 := zip_fst _ _ hl
      have z2 := zip_snd _ _ hl
      refine rk_dict g1 g2.1 g3 hsys hl (rk_keys g4 e1 o'.1 fun k hk => ?_) ?_
      · obtain ⟨p, hp, hle⟩ := PyData.shownKv_key_le ((ks.map keyPy).zip (D.pys ds)) (keyPy k).shown (by
          rw [z1]
          exact shown_mem (List.mem_map.mpr ⟨k, hk, rfl⟩))
        exact Nat.le_trans hle (Nat.le_trans (dictText_mem_le hp) hz)
      · rw [pairs_vals g4]
        refine IsAll.rk I ds _ _ o'.2.2 hs h2 e2 fun t ht => ?_
        obtain ⟨p, hp, hle⟩ := PyData.shownKv_val_le ((ks.map keyPy).zip (D.pys ds)) t (by rw [z2]; exact ht)
        exact Nat.le_trans hle (Nat.le_trans (dictText_mem_le hp) hz)
theorem IsAll.rk (I : Inv X pins σ H s) : ∀ (ds : List D) (vs : List V) (us : List Value), D.oksR ds = true → D.showss ds = true → IsAll X.K H vs ds → Vals vs us → (∀ t ∈ PyData.shownAll (D.pys ds), t.length ≤ sizeLine) → Rks X.prog X.w s.heap us (D.pys ds)
  | [], _, _, _, _, h, r, _ => by
    cases h
    cases r
    exact Rks.nil
  | d :: ds, _, _, o, hs, h, r, hz => by
    have o' : (D.okR d && D.oksR ds) = true := o
    have h' : (D.shows d && D.showss ds) = true := hs
    rw [Bool.and_eq_true] at o' h'
    cases h with
    | cons h1 h2 =>
      cases r with
      | cons r1 r2 => exact Rks.cons (Is.rk I d _ _ o'.1 h'.1 h1 r1 (hz _ (List.mem_cons_self ..))) (IsAll.rk I ds _ _ o'.2 h'.2 h2 r2 fun t ht => hz t (List.mem_cons_of_mem _ ht))
end
theorem repr_tup {A : Around} {E : Value → Shared → Prop} {Q : Value → Shared → Prop} {P : Program} {w : World} {a : Addr} {its : Array Value} {ds : List PyData} (pl : Heap.IsTuple s.heap a its) (r : Rks P w s.heap its.toList ds) (hg : A.guards = some []) (hu : A.units + 64 < cLine) (hd : (PyData.tuple ds).depth ≤ 60)
    (hz : (PyData.tuple ds).shown.length ≤ sizeLine) (hQ : ∀ h' u tk, (∀ b o, s.heap.get? b = some o → h'.get? b = some o) → Q (.str (PyData.tuple ds).shown u) { s with heap := h', toks := tk }) : wpAny (model P w) A (call (.builtin "repr") [.ref a]) Q E s := by
  obtain ⟨o, h1, h2, n, h3⟩ := pl
  obtain ⟨as, bs, rd, hb, hk⟩ := r
  have r : Reads s.heap (.ref a) (.tuple ds) _ := .tuple h1 h2 h3 rd
  have hna : a ∉ bs := not_mem_of_deeper r (by simp only [PyData.depth]; omega) hb
  simp only [PyData.depth] at hd
  exact call_repr_slot (by omega) ⟨o, h1, h2⟩ F.slot_tuple_repr (call_tuple_reprK h1 h2 h3 hna hk hg (fun b _ => Clear.nil b) (by show A.units + 1 + _ < cLine; omega) (fun _ _ e => e) (fun h' u tk kp => ⟨_, _, rfl, hQ h' u tk kp⟩) hz)
theorem repr_lst {A : Around} {E : Value → Shared → Prop} {Q : Value → Shared → Prop} {P : Program} {w : World} {a : Addr} {its : Array Value} {ds : List PyData} (pl : PlainL s.heap a its) (r : Rks P w s.heap its.toList ds) (hg : A.guards = some []) (hu : A.units + 64 < cLine) (hd : (PyData.list ds).depth ≤ 60)
    (hz : (PyData.list ds).shown.length ≤ sizeLine) (hQ : ∀ h' u tk, (∀ b o, s.heap.get? b = some o → h'.get? b = some o) → Q (.str (PyData.list ds).shown u) { s with heap := h', toks := tk }) : wpAny (model P w) A (call (.builtin "repr") [.ref a]) Q E s := by
  obtain ⟨o, n, h1, h2, _, h3⟩ := pl
  obtain ⟨as, bs, rd, hb, hk⟩ := r
  have r : Reads s.heap (.ref a) (.list ds) _ := .list h1 h2 h3 rd
  have hna : a ∉ bs := not_mem_of_deeper r (by simp only [PyData.depth]; omega) hb
  simp only [PyData.depth] at hd
  refine call_repr_slot (by omega) ⟨o, h1, h2⟩ F.slot_list_repr.toG ?_
  obtain ⟨l⟩ := its
  cases l with
  | nil =>
    have rd' : ReadsAll s.heap [] ds _ := rd
    cases rd'
    exact call_list_repr_empty ⟨o, h1, h2⟩ h1 h3 ⟨_, _, rfl, hQ s.heap _ _ fun _ _ e => e⟩
  | cons x l => exact call_list_reprK h1 h2 h3 hna (by simpa using hk.length_eq) (fun i y e => hk.item i y (by simpa using e)) hg (fun b _ => Clear.nil b) (by show A.units + 1 + _ < cLine; omega) (fun _ _ e => e) (fun h' u tk kp => ⟨_, _, rfl, hQ h' u tk kp⟩) hz
end
end DL

/-! DL4: built-in calls, what is walked, comprehensions, statements, loops. -/
namespace DL
open PySem L2

/-! ### built-in calls -/
def absI (i : Int) : Int := if i < 0 then -i else i
section
variable {X : Cx} {g : Gd} {E : XK} {m : List Nat} {a b : Expr} {fa fb : FE} {pos p : Pos}
def sLen : D → (D → Prop) → XD → Prop := fun a q _ => match a with
  | .tup xs => q (.int xs.length)
  | .lst xs => q (.int xs.length)
  | .str s => s.length ≤ LN ∧ q (.int s.length)
  | _ => False
theorem de_len (hg : Gl X "len") (hm : X.mg "len" = none) (ha : DB X g E m a fa) (h1 : starEach [a] X.env = (false, eval a X.env) :: starEach [] X.env := by rfl) : DE X g E m (.Call (.Name "len" p) [a] [] pos) (f1 sLen fa) :=
  de_1 (pe_callB call_len hg hm PySem.boot_len (pa_cons ha pa_nil h1) (he := h1)) fun g E H F v a q x Q r ia hs hq hx => by
  unfold sLen at hs
  split at hs
  · obtain ⟨p, ys, rfl, h1, h2⟩ := ia.tup
    rw [← h2.length] at hs
    exact ⟨_, _, rfl, .inr ⟨_, r.sub.sqT h1.sqT, rfl⟩, hq _ H F _ r (.int _) hs⟩
  · obtain ⟨p, ys, rfl, h1, h2⟩ := ia.lst' r.sub
    rw [← h2.length] at hs
    exact ⟨_, _, rfl, .inl ⟨_, h1, rfl⟩, hq _ H F _ r (.int _) hs⟩
  · rw [ia.str]
    exact ⟨_, _, rfl, ⟨LN_line hs.1, rfl⟩, hq _ H F _ r (.int _) hs.2⟩
  · exact hs.elim
def sAbs : D → (D → Prop) → XD → Prop := fun a q _ => match a with | .int i => q (.int (absI i)) | _ => False
theorem de_abs (hg : Gl X "abs") (hm : X.mg "abs" = none) (ha : DB X g E m a fa) (hb : bootBuiltins "abs" = some (.builtin "abs") := by decide +kernel) (h1 : starEach [a] X.env = (false, eval a X.env) :: starEach [] X.env := by rfl) : DE X g E m (.Call (.Name "abs" p) [a] [] pos) (f1 sAbs fa) :=
  de_1 (pe_callB call_abs hg hm hb (pa_cons ha pa_nil h1) (he := h1)) fun g E H F v a q x Q r ia hs hq hx => by
  unfold sAbs at hs
  split at hs
  · rw [ia.int]
    exact ⟨_, rfl, hq _ H F _ r (.int _) hs⟩
  · exact hs.elim
def sInt : D → (D → Prop) → XD → Prop := fun a q _ => match a with | .int i => q (.int i) | .bl b => q (.int (if b then 1 else 0)) | _ => False
theorem de_toInt (hg : Gl X "int") (hm : X.mg "int" = none) (ha : DB X g E m a fa) (hb : bootBuiltins "int" = some (.type "int") := by decide +kernel) (h1 : starEach [a] X.env = (false, eval a X.env) :: starEach [] X.env := by rfl) : DE X g E m (.Call (.Name "int" p) [a] [] pos) (f1 sInt fa) :=
  de_1 (pe_callTy call_int1 hg hm hb (pa_cons ha pa_nil h1) (he := h1)) fun g E H F v a q x Q r ia hs hq hx => by
  unfold sInt at hs
  split at hs
  · rw [ia.int]
    exact .inl ⟨_, rfl, hq _ H F _ r (.int _) hs⟩
  · rw [ia.bl]
    exact .inr ⟨_, rfl, hq _ H F _ r (.int _) hs⟩
  · exact hs.elim
theorem de_max2 (hc : X.calm = true) (hg : Gl X "max") (hm : X.mg "max" = none) (ha : DB X g E m a fa) (hb : DB X g E m b fb) (hbt : bootBuiltins "max" = some (.builtin "max") := by decide +kernel) (h1 : starEach [a, b] X.env = (false, eval a X.env) :: starEach [b] X.env := by rfl) (h2 : starEach [b] X.env = (false, eval b X.env) :: starEach [] X.env := by rfl) : DE X g E m (.Call (.Name "max" p) [a, b] [] pos) (f2 (sI0 fun i j => .int (if j > i then j else i)) fa fb) :=
  de_2 (r := fun v w H Q => ∃ i j, [v, w] = [V.int i, .int j] ∧ Q (.int (if j > i then j else i)) H) (pe_callB (call_max2 hc) hg hm hbt (pa_cons ha (pa_cons hb pa_nil h2) h1) (he := h1) (hpl := by rw [h2]; rfl)) fun g E H F v w a b q x Q r ia ib hs hq hx => by
  unfold sI0 at hs
  split at hs
  · rw [ia.int, ib.int]
    exact ⟨_, _, rfl, hq _ H F _ r (.int _) hs⟩
  · exact hs.elim
theorem de_min2 (hc : X.calm = true) (hg : Gl X "min") (hm : X.mg "min" = none) (ha : DB X g E m a fa) (hb : DB X g E m b fb) (hbt : bootBuiltins "min" = some (.builtin "min") := by decide +kernel) (h1 : starEach [a, b] X.env = (false, eval a X.env) :: starEach [b] X.env := by rfl) (h2 : starEach [b] X.env = (false, eval b X.env) :: starEach [] X.env := by rfl) : DE X g E m (.Call (.Name "min" p) [a, b] [] pos) (f2 (sI0 fun i j => .int (if j < i then j else i)) fa fb) :=
  de_2 (r := fun v w H Q => ∃ i j, [v, w] = [V.int i, .int j] ∧ Q (.int (if j < i then j else i)) H) (pe_callB (call_min2 hc) hg hm hbt (pa_cons ha (pa_cons hb pa_nil h2) h1) (he := h1) (hpl := by rw [h2]; rfl)) fun g E H F v w a b q x Q r ia ib hs hq hx => by
  unfold sI0 at hs
  split at hs
  · rw [ia.int, ib.int]
    exact ⟨_, _, rfl, hq _ H F _ r (.int _) hs⟩
  · exact hs.elim
def gcdI (i j : Int) : Int := ((Nat.gcd i.natAbs j.natAbs : Nat) : Int)
theorem de_gcd {nm : Str} (hg : Gl X nm) (hm : X.mg nm = some (.builtin "math.gcd")) (ha : DB X g E m a fa) (hb : DB X g E m b fb) (hdb : (nm == ("__debug__" : Str)) = false := by decide) (h1 : starEach [a, b] X.env = (false, eval a X.env) :: starEach [b] X.env := by rfl) (h2 : starEach [b] X.env = (false, eval b X.env) :: starEach [] X.env := by rfl) : DE X g E m (.Call (.Name nm p) [a, b] [] pos) (f2 (sI0 fun i j => .int (gcdI i j)) fa fb) :=
  de_2 (r := fun v w H Q => rGcd [v, w] H Q) (pe_callBfun cr_gcd hg hm (pa_cons ha (pa_cons hb pa_nil h2) h1) hdb h1 (by rw [h2]; rfl)) fun g E H F v w a b q x Q r ia ib hs hq hx => by
  unfold sI0 at hs
  split at hs
  · rw [ia.int, ib.int]
    exact ⟨_, _, rfl, hq _ H F _ r (.int _) hs⟩
  · exact hs.elim
/-- list(x), tuple(x) -/
def sList : D → (D → Prop) → XD → Prop := fun a q _ => match a with | .tup xs => q (.lst xs) | .lst xs => q (.lst xs) | _ => False
def sTuple : D → (D → Prop) → XD → Prop := fun a q _ => match a with | .tup xs => q (.tup xs) | .lst xs => q (.tup xs) | _ => False
theorem df_1 {e : Expr} {r : V → Hp → VK → Prop} {sem : D → (D → Prop) → XD → Prop} (h : PE X e (tUn r (tBo X.K g E m fa)))
    (hs : ∀ (g : Gd) (E : XK) (H F : Hp) (v : V) (a : D) (q : D → Prop) (x : XD) (Q : VK), Fr g H F H F → IsB X.K g F H v a → sem a q x → (∀ p H' F' vs xs, Fr g H F H' F' → H p = none → H' p = some (.lst vs) → F' p = none → IsAll X.K F' vs xs → q (.lst xs) → Q (.ref p) H') → XE X.K g H F x E → r v H Q) :
    DF X g E m e (f1 sem fa) := PEimp h fun σ H Q ⟨H0, F0, F, ρ, q, x, R, hf, hq, hx⟩ =>
  ⟨H0, F0, F, ρ, _, x, R, hf, fun v H1 F1 d r1 i1 hb => hs g E H1 F1 v d q x Q (R.step r1).fr.self i1 hb (fun p H' F' vs xs r3 n h1 h2 ha hd => hq p H' F' vs xs (r1.trans r3) (r1.back n) h1 h2 ha hd) (hx.step r1), hx⟩
theorem df_list (hg : Gl X "list") (hm : X.mg "list" = none) (ha : DB X g E m a fa) (hb : bootBuiltins "list" = some (.type "list") := by decide +kernel) (h1 : starEach [a] X.env = (false, eval a X.env) :: starEach [] X.env := by rfl) : DF X g E m (.Call (.Name "list" p) [a] [] pos) (f1 sList fa) :=
  df_1 (r := fun v H Q => ∃ p ys, [v] = [V.ref p] ∧ (SqL X.K H p ys ∨ SqT X.K H p ys) ∧ ∀ l, H l = none → Q (.ref l) (upd H l (.lst ys))) (pe_callTy call_list_of hg hm hb (pa_cons ha pa_nil h1) (he := h1)) fun g E H F v a q x Q r ia hs hq hx => by
  unfold sList at hs
  split at hs
  · obtain ⟨p, ys, rfl, h1, h2⟩ := ia.tup
    exact ⟨_, _, rfl, .inr (r.sub.sqT h1.sqT), fun l hl => hq l _ F _ _ (r.newO hl) hl upd_same (r.freeF hl) h2 hs⟩
  · obtain ⟨p, ys, rfl, h1, h2⟩ := ia.lst' r.sub
    exact ⟨_, _, rfl, .inl h1, fun l hl => hq l _ F _ _ (r.newO hl) hl upd_same (r.freeF hl) h2 hs⟩
  · exact hs.elim
theorem de_tuple (hg : Gl X "tuple") (hm : X.mg "tuple" = none) (ha : DB X g E m a fa) (hb : bootBuiltins "tuple" = some (.type "tuple") := by decide +kernel) (h1 : starEach [a] X.env = (false, eval a X.env) :: starEach [] X.env := by rfl) : DE X g E m (.Call (.Name "tuple" p) [a] [] pos) (f1 sTuple fa) :=
  de_1 (r := fun v H Q => ∃ p ys, [v] = [V.ref p] ∧ ((SqL X.K H p ys ∧ ∀ l, H l = none → Q (.ref l) (upd H l (.tup ys))) ∨ (SqT X.K H p ys ∧ Q (.ref p) H))) (pe_callTy call_tuple_of hg hm hb (pa_cons ha pa_nil h1) (he := h1)) fun g E H F v a q x Q r ia hs hq hx => by
  unfold sTuple at hs
  split at hs
  · obtain ⟨p, ys, rfl, h1, h2⟩ := ia.tup
    exact ⟨_, _, rfl, .inr ⟨r.sub.sqT h1.sqT, hq _ H F _ r (.tup h1 h2) hs⟩⟩
  · obtain ⟨p, ys, rfl, h1, h2⟩ := ia.lst' r.sub
    exact ⟨_, _, rfl, .inl ⟨h1, fun l hl => hq _ _ (upd F l _) _ (r.new hl) (.tup (.inl upd_same) (h2.up (r.new (o := .tup ys) hl).f0)) hs⟩⟩
  · exact hs.elim
/-- isinstance(x, T), T a built-in type by its name -/
def D.ty : D → String
  | .non => "NoneType"
  | .bl _ => "bool"
  | .int _ => "int"
  | .str _ => "str"
  | .tup _ => "tuple"
  | .lst _ => "list"
  | .ref _ => ""
  | .dic _ _ => "dict"
  | .dtu _ _ => "dict"
  | .err _ _ => "object"
  | .diz _ _ => "dict"
def isTy (n t : String) : Bool := n == t || (n == "int" && t == "bool")
def sIsi (n : String) : D → (D → Prop) → XD → Prop := fun a q _ => match a with | .ref _ => False | .err _ _ => False | a => q (.bl (isTy n a.ty))
theorem IsB.tyx {K : PySem.W.Frag} {g : Gd} {F H : Hp} {v : V} {d : D} (s : Ex F H) (h : IsB K g F H v d) (hd : ∀ a, d ≠ .ref a) (he : ∀ n t, d ≠ .err n t) : TyX K H v (.type d.ty) := by
  rcases h with h | ⟨a, o, rfl, h1, _, h3⟩
  · cases h with
    | non => exact .base .non
    | bl b => exact .base (.bl b)
    | int i => exact .base (.int i)
    | str x => exact .base (.str x)
    | ref a => exact absurd rfl (hd a)
    | tup h1 h2 =>
      rcases h1 with h1 | ⟨_, o, its, n, h1, h2, _⟩
      · exact .base (.tup (s _ _ h1))
      · exact .kTuple h1 h2
    | lst h1 h2 => exact .base (.lst (s _ _ h1))
    | dic h1 h0 h2 => exact .base (.dK (s _ _ h1))
    | dtu h1 h0 h2 => exact .base (.dT (s _ _ h1))
    | err _ _ _ => exact absurd rfl (he _ _)
    | diz h1 h0 h2 => exact .fDict (s _ _ h1)
  · cases h3 with
    | lst _ => exact .base (.lst h1)
    | dtu _ _ => exact .base (.dT h1)
theorem de_isi {n : Str} {T : String} {p2 : Pos} (hg : Gl X "isinstance") (hm : X.mg "isinstance" = none) (hg2 : Gl X n) (hm2 : X.mg n = none) (hb2 : bootBuiltins n = some (.type T)) (ha : DB X g E m a fa)
    (hk : ∀ t ∈ ["NoneType", "bool", "int", "str", "tuple", "list", "dict"], kitB t T = some (isTy T t)) (hb : bootBuiltins "isinstance" = some (.builtin "isinstance") := by decide +kernel) (hn2 : n ≠ "__name__" := by decide) (hd2 : (n == ("__debug__" : Str)) = false := by decide) (h1 : starEach [a, .Name n p2] X.env = (false, eval a X.env) :: starEach [.Name n p2] X.env := by rfl) :
    DE X g E m (.Call (.Name "isinstance" p) [a, .Name n p2] [] pos) (f1 (sIsi T) fa) :=
  de_1 (r := fun v H Q => rIsi X.K [v, .ty T] H Q) (pe_callB call_isi hg hm hb (pa_cons ha (pa_cons (pe_bltn (v := .ty T) hg2 hm2 hb2 rfl hn2 hd2) pa_nil) h1) (he := h1)) fun g E H F v a q x Q r ia hs hq hx => by
  have key : (∀ b, a ≠ .ref b) → (∀ n t, a ≠ .err n t) → q (.bl (isTy T a.ty)) → rIsi X.K [v, .ty T] H Q := fun nr ne hs => by
    have hm : a.ty ∈ ["NoneType", "bool", "int", "str", "tuple", "list", "dict"] := by
      cases a with
      | ref b => exact absurd rfl (nr b)
      | err n t => exact absurd rfl (ne n t)
      | _ => simp [D.ty]
    exact ⟨_, _, _, _, _, rfl, .ty T, ia.tyx r.sub nr ne, kit_ty (hk _ hm), hq _ H F _ r (.bl _) hs⟩
  unfold sIsi at hs
  split at hs
  · exact hs.elim
  · exact hs.elim
  · rename_i nr ne
    exact key (fun b z => nr b z) (fun n t z => ne n t z) hs
/-- repr(x) -/
def sRepr : D → (D → Prop) → XD → Prop := fun a q _ => a.okR = true ∧ a.shows = true ∧ a.dep ≤ 60 ∧ a.cost ≤ LN ∧ q (.str a.py.shown)
/-- what repr asks of a list or tuple -/
def rRepr (K : PySem.W.Frag) : List V → Hp → VK → Prop := fun xs H Q => ∃ (p : Addr) (vs : List V) (ds : List D), xs = [.ref p] ∧ IsAll K H vs ds ∧ D.oksR ds = true ∧ D.showss ds = true ∧ D.deps ds + 1 ≤ 60 ∧
  ((SqT K H p vs ∧ (PyData.tuple (D.pys ds)).shown.length ≤ sizeLine ∧ Q (.str (PyData.tuple (D.pys ds)).shown) H) ∨ (SqL K H p vs ∧ (PyData.list (D.pys ds)).shown.length ≤ sizeLine ∧ Q (.str (PyData.list (D.pys ds)).shown) H))
theorem call_reprD (hG : X.A.guards = some []) (hu : X.A.units + 64 < cLine) : CallR X (.builtin "repr") (rRepr X.K) := by
  intro pins s σ H xs us Q I r h
  obtain ⟨p, vs, ds, rfl, ia, h1, h2, h3, h⟩ := h
  obtain ⟨u, rfl, ru⟩ := vals1 r
  cases ru
  rcases h with ⟨hs, hz, q⟩ | ⟨hs, hz, q⟩
  · obtain ⟨its, rv, pl, _⟩ := I.tuple hs
    exact repr_tup pl (IsAll.rk I ds _ _ h1 h2 ia rv fun t ht => Nat.le_trans (tupleText_mem_le ht) hz) hG hu (Nat.le_trans (Nat.add_le_add_right (D.pys_dep ds) 1) h3) hz fun h' u tk kp => ⟨.str _, H, I.kept (t' := tk) kp, ⟨u, rfl⟩, q⟩
  · obtain ⟨its, rv, pl, _⟩ := I.list hs
    exact repr_lst pl (IsAll.rk I ds _ _ h1 h2 ia rv fun t ht => Nat.le_trans (listText_mem_le ht) hz) hG hu (Nat.le_trans (Nat.add_le_add_right (D.pys_dep ds) 1) h3) hz fun h' u tk kp => ⟨.str _, H, I.kept (t' := tk) kp, ⟨u, rfl⟩, q⟩
theorem de_repr (hG : X.A.guards = some []) (hu : X.A.units + 64 < cLine) (hg : Gl X "repr") (hm : X.mg "repr" = none) (ha : DB X g E m a fa) (hb : bootBuiltins "repr" = some (.builtin "repr") := by decide +kernel) (h1 : starEach [a] X.env = (false, eval a X.env) :: starEach [] X.env := by rfl) : DE X g E m (.Call (.Name "repr" p) [a] [] pos) (f1 (fun a q x => (match a with | .tup _ => True | .lst _ => True | _ => False) ∧ sRepr a q x) fa) :=
  de_1 (r := fun v H Q => rRepr X.K [v] H Q) (pe_callB (call_reprD hG hu) hg hm hb (pa_cons ha pa_nil h1) (he := h1)) fun g E H F v a q x Q r ia hs hq hx => by
  obtain ⟨hs0, h1, h2, h3, h4, hs⟩ := hs
  have hz := LN_line (Nat.le_trans (D.shown_len a h1 h2) h4)
  split at hs0
  · obtain ⟨p, vs, e, i1, i2⟩ := ia.tup
    exact ⟨p, vs, _, by rw [e], i2.up r.sub, h1, h2, h3, .inl ⟨r.sub.sqT i1.sqT, hz, hq _ H F _ r (.str _) hs⟩⟩
  · obtain ⟨p, vs, e, i1, i2⟩ := ia.lst r.sub
    exact ⟨p, vs, _, by rw [e], i2.up r.sub, h1, h2, h3, .inr ⟨.inl (.inl i1), hz, hq _ H F _ r (.str _) hs⟩⟩
  · exact hs0.elim
end

/-! ### what is walked -/
/-- J yields ds, as long as F stands -/
structure Yl (K : PySem.W.Frag) (J : It) (F : Hp) (ds : List D) : Prop where
  go : ∀ i H, Ex F H → i < ds.length → J.go i H
  yl : ∀ (g : Gd) (i : Nat) (d : D) (H F1 : Hp) (x : V) (H' : Hp), Fr g H F1 H F1 → Ex F F1 → ds[i]? = some d → J.yld i H x H' → ∃ F2, Fr g H F1 H' F2 ∧ Is K F2 x d
  stop : ∀ i H, Ex F H → ds.length ≤ i → J.stop i H
abbrev FI := Ro → (List D → Prop) → XD → Prop
def tI (K : PySem.W.Frag) (g : Gd) (E : XK) (m : List Nat) (f : FI) : TI := fun σ H R => ∃ H0 F0 F ρ q x, Rel K g H0 F0 m σ H F ρ ∧ f ρ q x ∧
  (∀ J H' F' ds, Fr g H F H' F' → Yl K J F' ds → q ds → R J H') ∧ XE K g H F x E
abbrev DI (X : Cx) (g : Gd) (E : XK) (m : List Nat) (tg iter : Expr) (f : FI) : Prop := PI X tg iter (tI X.K g E m f)
theorem PIimp {X : Cx} {tg e : Expr} {t t' : TI} (h : PI X tg e t) (i : ∀ σ H Q, t' σ H Q → t σ H Q) : PI X tg e t' := ⟨fun pins s σ H Q I q => h.run pins s σ H Q I (i σ H Q q)⟩
section
variable {X : Cx} {g : Gd} {E : XK} {m : List Nat} {a b tg : Expr} {fa fb : FE} {pos p : Pos}
theorem yl_list {K : PySem.W.Frag} {F : Hp} {a : Addr} {vs : List V} {ds : List D} (h : F a = some (.lst vs)) (ha : IsAll K F vs ds) : Yl K (Itl K a) F ds where
  go := fun i H e hi => by
    obtain ⟨v, e1, _⟩ := ha.get (List.getElem?_eq_getElem hi)
    exact ⟨vs, v, .inl (.inl (e _ _ h)), e1⟩
  yl := fun g i d H F1 x H' r e hd hy => by
    obtain ⟨rfl, hy⟩ := hy
    obtain ⟨v, e1, e2⟩ := ha.get hd
    have := hy vs (.inl (.inl (r.sub _ _ (e _ _ h))))
    rw [e1] at this
    cases this
    exact ⟨F1, r, e2.up e⟩
  stop := fun i H e hi => ⟨vs, .inl (.inl (e _ _ h)), by rw [ha.length]; exact hi⟩
theorem yl_tup {K : PySem.W.Frag} {F : Hp} {a : Addr} {vs : List V} {ds : List D} (h : SqT K F a vs) (ha : IsAll K F vs ds) : Yl K (Itt K a) F ds where
  go := fun i H e hi => by
    obtain ⟨v, e1, _⟩ := ha.get (List.getElem?_eq_getElem hi)
    exact ⟨vs, v, e.sqT h, e1⟩
  yl := fun g i d H F1 x H' r e hd hy => by
    obtain ⟨rfl, hy⟩ := hy
    obtain ⟨v, e1, e2⟩ := ha.get hd
    have := hy vs (r.sub.sqT (e.sqT h))
    rw [e1] at this
    cases this
    exact ⟨F1, r, e2.up e⟩
  stop := fun i H e hi => ⟨vs, e.sqT h, by rw [ha.length]; exact hi⟩
def rangeD (lo : Int) (n : Nat) : List D := (List.range n).map fun i => .int (lo + (i : Nat))
theorem yl_range {K : PySem.W.Frag} {F : Hp} {lo : Int} {n : Nat} : Yl K (Itr lo n) F (rangeD lo n) where
  go := fun i H e hi => by
    have : i < n := by simpa [rangeD] using hi
    exact this
  yl := fun g i d H F1 x H' r e hd hy => by
    obtain ⟨rfl, rfl⟩ := hy
    unfold rangeD at hd
    rw [List.getElem?_map] at hd
    cases hr : (List.range n)[i]? with
    | none => rw [hr] at hd; cases hd
    | some j =>
      rw [hr] at hd
      have hj : j = i := by
        obtain ⟨h1, h2⟩ := List.getElem?_eq_some_iff.mp hr
        rw [List.getElem_range] at h2
        exact h2.symm
      cases hd
      subst hj
      exact ⟨F1, r, .int _⟩
  stop := fun i H e hi => by
    have : n ≤ i := by simpa [rangeD] using hi
    exact this
/-- a list -/
def fItL (f : FE) : FI := fun ρ q x => f ρ (fun d => match d with | .lst xs => q xs | _ => False) x
theorem di_list (h : DE X g E m a fa) : DI X g E m tg a (fItL fa) := PIimp (pi_list h) fun σ H R ⟨H0, F0, F, ρ, q, x, Rl, hf, hq, hx⟩ =>
  ⟨H0, F0, F, ρ, _, x, Rl, hf, fun v H' F' d r i hd => by
    split at hd
    · cases i with
      | lst h1 h2 => exact ⟨_, rfl, ⟨_, .inl (.inl ((Rl.step r).fr.sub _ _ h1))⟩, hq _ H' F' _ r (yl_list h1 h2) hd⟩
    · exact hd.elim, hx⟩
/-- a tuple -/
def fItT (f : FE) : FI := fun ρ q x => f ρ (fun d => match d with | .tup xs => q xs | _ => False) x
theorem di_tup (h : DE X g E m a fa) : DI X g E m tg a (fItT fa) := PIimp (pi_tup h) fun σ H R ⟨H0, F0, F, ρ, q, x, Rl, hf, hq, hx⟩ =>
  ⟨H0, F0, F, ρ, _, x, Rl, hf, fun v H' F' d r i hd => by
    split at hd
    · cases i with
      | tup h1 h2 => exact ⟨_, rfl, ⟨_, (Rl.step r).fr.sub.sqT h1.sqT⟩, hq _ H' F' _ r (yl_tup h1.sqT h2) hd⟩
    · exact hd.elim, hx⟩
def fRg1 (f : FE) : FI := fun ρ q x => f ρ (fun d => match d with | .int n => -(2 ^ 62) ≤ n ∧ n < 2 ^ 62 ∧ q (rangeD 0 n.toNat) | _ => False) x
theorem di_range1 (hg : Gl X "range") (hm : X.mg "range" = none) (h : DE X g E m a fa) (hs : starEach [a] X.env = [(false, eval a X.env)] := by rfl) : DI X g E m tg (.Call (.Name "range" p) [a] [] pos) (fRg1 fa) := PIimp (pi_range1 hg hm (pa_cons h pa_nil hs) hs) fun σ H R ⟨H0, F0, F, ρ, q, x, Rl, hf, hq, hx⟩ =>
  ⟨H0, F0, F, ρ, _, x, Rl, hf, fun v H' F' d r i hd => by
    split at hd
    · cases i
      exact ⟨_, rfl, hd.1, hd.2.1, hq _ H' F' _ r yl_range hd.2.2⟩
    · exact hd.elim, hx⟩
def fRg2 (f f' : FE) : FI := fun ρ q x => f ρ (fun d => f' ρ (fun e => match d, e with | .int lo, .int hi => (-(2 ^ 62) ≤ lo ∧ lo < 2 ^ 62 ∧ -(2 ^ 62) ≤ hi ∧ hi < 2 ^ 62) ∧ q (rangeD lo (hi - lo).toNat) | _, _ => False) x) x
theorem di_range2 (hg : Gl X "range") (hm : X.mg "range" = none) (h : DE X g E m a fa) (h' : DE X g E m b fb) (hs : starEach [a, b] X.env = [(false, eval a X.env), (false, eval b X.env)] := by rfl) (hs2 : starEach [b] X.env = [(false, eval b X.env)] := by rfl) :
    DI X g E m tg (.Call (.Name "range" p) [a, b] [] pos) (fRg2 fa fb) := PIimp (pi_range2 hg hm (pa_cons h (pa_cons h' pa_nil hs2) (by rw [hs, hs2])) hs hs2) fun σ H R ⟨H0, F0, F, ρ, q, x, Rl, hf, hq, hx⟩ =>
  ⟨H0, F0, F, ρ, _, x, Rl, hf, fun v H1 F1 d r1 i1 hd => ⟨H0, F0, F1, ρ, _, x, Rl.step r1, hd, fun w H2 F2 d2 r2 i2 hd => by
    split at hd
    · cases i1
      cases i2
      exact ⟨_, _, rfl, hd.1, hq _ H2 F2 _ (r1.trans r2) yl_range hd.2⟩
    · exact hd.elim, hx.step r1⟩, hx⟩
end

/-! ### targets -/
abbrev FG := D → Ro → (Ro → Prop) → Prop
def tG (K : PySem.W.Frag) (g : Gd) (m m' : List Nat) (f : FG) : TG := fun v σ H Q => ∃ H0 F0 F ρ d q, Rel K g H0 F0 m σ H F ρ ∧ Is K F v d ∧ f d ρ q ∧ ∀ σ' ρ', Rel K g H0 F0 m' σ' H F ρ' → q ρ' → Q σ' H
abbrev DG (X : Cx) (g : Gd) (m m' : List Nat) (e : Expr) (f : FG) : Prop := PG X e (tG X.K g m m' f)
theorem PGimp {X : Cx} {e : Expr} {t t' : TG} (h : PG X e t) (i : ∀ v σ H Q, t' v σ H Q → t v σ H Q) : PG X e t' := ⟨fun pins s σ H v u Q I r q => h.run pins s σ H v u Q I r (i v σ H Q q)⟩
def fName (i : Nat) : FG := fun d ρ q => i < ρ.length ∧ q (ρ.set i (some d))
abbrev del (m : List Nat) (i : Nat) : List Nat := m.filter (· ≠ i)
abbrev FGs := List D → Ro → (Ro → Prop) → Prop
def tGs (K : PySem.W.Frag) (g : Gd) (m m' : List Nat) (f : FGs) : TGs := fun vs σ H Q => ∃ H0 F0 F ρ ds q, Rel K g H0 F0 m σ H F ρ ∧ IsAll K F vs ds ∧ f ds ρ q ∧ ∀ σ' ρ', Rel K g H0 F0 m' σ' H F ρ' → q ρ' → Q σ' H
abbrev DGs (X : Cx) (g : Gd) (m m' : List Nat) (es : List Expr) (f : FGs) : Prop := PGs X es (tGs X.K g m m' f)
theorem PGsimp {X : Cx} {e : List Expr} {t t' : TGs} (h : PGs X e t) (i : ∀ v σ H Q, t' v σ H Q → t v σ H Q) : PGs X e t' := ⟨fun pins s σ H v u Q I r q => h.run pins s σ H v u Q I r (i v σ H Q q)⟩
def fGnil : FGs := fun ds ρ q => ds = [] ∧ q ρ
def fGcons (f : FG) (fs : FGs) : FGs := fun ds ρ q => match ds with | [] => False | d :: ds => f d ρ (fun ρ' => fs ds ρ' q)
def fGtup (n : Nat) (fs : FGs) : FG := fun d ρ q => match d with | .tup ds => ds.length = n ∧ fs ds ρ q | _ => False
section
variable {X : Cx} {g : Gd} {m m1 m2 : List Nat} {e : Expr} {es : List Expr} {f : FG} {fs : FGs} {pos : Pos}
theorem dg_name {i : Nat} {x : Str} (hN : X.N.Nodup) (hi : X.N[i]? = some x) (hx : Loc X.env.scope x) (hf : X.fn x = true ∨ X.env.scope.names.lookup x = some .local := by first | exact .inl rfl | exact .inr rfl | assumption) : DG X g m (del m i) (.Name x pos) (fName i) :=
  PGimp (pg_name hN hi hx hf) fun v σ H Q ⟨H0, F0, F, ρ, d, q, R, is, hf, hq⟩ => hq _ _ (R.set is hf.1) hf.2
theorem dgs_nil : DGs X g m m [] fGnil := PGsimp pgs_nil fun vs σ H Q ⟨H0, F0, F, ρ, ds, q, R, is, hf, hq⟩ => by
  obtain ⟨rfl, hf⟩ := hf
  cases is
  exact ⟨rfl, hq _ _ R hf⟩
theorem dgs_cons (h1 : DG X g m m1 e f) (h2 : DGs X g m1 m2 es fs) (hs : (assignEach (e :: es) X.env).map (·.2) = assign e X.env :: (assignEach es X.env).map (·.2) := by rfl) : DGs X g m m2 (e :: es) (fGcons f fs) :=
  PGsimp (pgs_cons h1 h2 hs) fun vs σ H Q ⟨H0, F0, F, ρ, ds, q, R, is, hf, hq⟩ => by
  unfold fGcons at hf
  split at hf
  · exact hf.elim
  · cases is with
    | cons i1 i2 => exact ⟨_, _, rfl, H0, F0, F, ρ, _, _, R, i1, hf, fun σ' ρ' R' hf' => ⟨H0, F0, F, ρ', _, q, R', i2, hf', fun σ2 ρ2 R2 h2 => hq _ _ R2 h2⟩⟩
theorem dg_tup {k n : Nat} (hc : X.calm = true) (h : DGs X g m m1 es fs) (hn : (assignEach es X.env).length = n := by rfl) (hst : (assignEach es X.env).findIdx? (·.1) = none := by rfl) : DG X g m m1 (.Tuple es k pos) (fGtup n fs) :=
  PGimp (pg_tup hc h hn hst) fun v σ H Q ⟨H0, F0, F, ρ, d, q, R, is, hf, hq⟩ => by
  unfold fGtup at hf
  split at hf
  · cases is with
    | tup h1 h2 => exact ⟨_, _, rfl, R.fr.sub.sqT h1.sqT, by rw [h2.length]; exact hf.1, H0, F0, F, ρ, _, q, R, h2, hf.2, hq⟩
  · exact hf.elim
end

/-! ### statements -/
structure DEnds where
  nx : Ro → Prop
  bk : Ro → Prop
  ct : Ro → Prop
  rt : D → Prop
  x : XD
abbrev FS := Ro → DEnds → Prop
/-- what a def hands back: data, or (k) a new list -/
def RetIs (K : PySem.W.Frag) (k : Bool) (H0 H F : Hp) (v : V) (d : D) : Prop :=
  match k with
  | false => Is K F v d
  | true => ∃ a vs xs, v = .ref a ∧ d = .lst xs ∧ H a = some (.lst vs) ∧ IsAll K F vs xs ∧ F a = none ∧ H0 a = none
def tS (K : PySem.W.Frag) (g : Gd) (E : XK) (k : Bool) (mb m m' : List Nat) (f : FS) : TS := fun D σ H => ∃ H0 F0 F ρ d, Rel K g H0 F0 m σ H F ρ ∧ f ρ d ∧
  (∀ σ' H' F' ρ', Rel K g H0 F0 m' σ' H' F' ρ' → Ex F F' → d.nx ρ' → D.nx σ' H') ∧ (∀ σ' H' F' ρ', Rel K g H0 F0 mb σ' H' F' ρ' → Ex F F' → d.bk ρ' → D.bk σ' H') ∧ (∀ σ' H' F' ρ', Rel K g H0 F0 mb σ' H' F' ρ' → Ex F F' → d.ct ρ' → D.ct σ' H') ∧
  (∀ v H' F' r, Fr g H0 F0 H' F' → RetIs K k H0 H' F' v r → d.rt r → D.rt v H') ∧ XE K g H0 F0 d.x E
abbrev DS (X : Cx) (g : Gd) (E : XK) (k : Bool) (mb m m' : List Nat) (st : Stmt) (f : FS) : Prop := PS X st (tS X.K g E k mb m m' f)
abbrev DSs (X : Cx) (g : Gd) (E : XK) (k : Bool) (mb m m' : List Nat) (st : List Stmt) (f : FS) : Prop := PSs X st (tS X.K g E k mb m m' f)
def fSkip : FS := fun ρ d => d.nx ρ
def fSeq (f f' : FS) : FS := fun ρ d => f ρ { d with nx := fun ρ' => f' ρ' d }
def fIfS (t : FT) (f f' : FS) : FS := fun ρ d => t ρ (fun b => if b = true then f ρ d else f' ρ d) d.x
def fRet (f : FE) : FS := fun ρ d => f ρ d.rt d.x
def fRetN : FS := fun _ d => d.rt .non
def fDrop (f : FE) : FS := fun ρ d => f ρ (fun _ => d.nx ρ) d.x
def fAsg (f : FE) (t : FG) : FS := fun ρ d => f ρ (fun a => t a ρ d.nx) d.x
def fBrk : FS := fun ρ d => d.bk ρ
def fCnt : FS := fun ρ d => d.ct ρ
def fNever : FS := fun _ _ => False
section
variable {X : Cx} {g : Gd} {E : XK} {k : Bool} {mb m m' m1 : List Nat} {st : Stmt} {sts ss : List Stmt} {f f' : FS} {e : Expr} {fe : FE} {ft : FT} {pos : Pos}
theorem dss_nil : DSs X g E k mb m m [] fSkip := PSsimp pss_nil fun D σ H ⟨H0, F0, F, ρ, d, R, hf, h1, h2, h3, h4, h5⟩ => h1 σ H F ρ R (Ex.refl _) hf
theorem dss_cons (h : DS X g E k mb m m1 st f) (h' : DSs X g E k mb m1 m' sts f') : DSs X g E k mb m m' (st :: sts) (fSeq f f') := PSsimp (pss_cons h h') fun D σ H ⟨H0, F0, F, ρ, d, R, hf, h1, h2, h3, h4, h5⟩ =>
  ⟨H0, F0, F, ρ, _, R, hf, fun σ' H' F' ρ' R' e hf' => ⟨H0, F0, F', ρ', d, R', hf', fun σ2 H2 F2 ρ2 R2 e2 => h1 σ2 H2 F2 ρ2 R2 (e.trans e2), fun σ2 H2 F2 ρ2 R2 e2 => h2 σ2 H2 F2 ρ2 R2 (e.trans e2), fun σ2 H2 F2 ρ2 R2 e2 => h3 σ2 H2 F2 ρ2 R2 (e.trans e2), h4, h5⟩, h2, h3, h4, h5⟩
theorem dss_one (h : DS X g E k mb m m' st f) : DSs X g E k mb m m' [st] f := pss_one h
theorem weakIn {t : List Nat} (h : m1.all (fun i => m.contains i) = true) {D : Ends} {σ : L2.St} {H : Hp} (q : tS X.K g E k mb m m' f D σ H) : tS X.K g E k mb m1 m' f D σ H := by
  obtain ⟨H0, F0, F, ρ, d, R, hf, h1, h2, h3, h4, h5⟩ := q
  obtain ⟨F', R', e⟩ := R.weak h
  exact ⟨H0, F0, F', ρ, d, R', hf, fun σ2 H2 F2 ρ2 R2 e2 => h1 σ2 H2 F2 ρ2 R2 (e.trans e2), fun σ2 H2 F2 ρ2 R2 e2 => h2 σ2 H2 F2 ρ2 R2 (e.trans e2), fun σ2 H2 F2 ρ2 R2 e2 => h3 σ2 H2 F2 ρ2 R2 (e.trans e2), h4, h5⟩
theorem weakOut (h : m'.all (fun i => m1.contains i) = true) {D : Ends} {σ : L2.St} {H : Hp} (q : tS X.K g E k mb m m' f D σ H) : tS X.K g E k mb m m1 f D σ H := by
  obtain ⟨H0, F0, F, ρ, d, R, hf, h1, h2, h3, h4, h5⟩ := q
  exact ⟨H0, F0, F, ρ, d, R, hf, fun σ' H' F' ρ' R' e hn => by
    obtain ⟨F2, R2, e2⟩ := R'.weak h
    exact h1 σ' H' F2 ρ' R2 (e.trans e2) hn, h2, h3, h4, h5⟩
/-- fewer lists ours ahead, behind -/
theorem dss_in (m1 : List Nat) (h : DSs X g E k mb m1 m' sts f) (hm : m1.all (fun i => m.contains i) = true := by rfl) : DSs X g E k mb m m' sts f := PSsimp h fun _ _ _ q => weakIn (t := []) hm q
theorem dss_out {m1 : List Nat} (h : DSs X g E k mb m m1 sts f) (hm : m'.all (fun i => m1.contains i) = true := by rfl) : DSs X g E k mb m m' sts f := PSsimp h fun _ _ _ q => weakOut hm q
theorem ds_in (m1 : List Nat) (h : DS X g E k mb m1 m' st f) (hm : m1.all (fun i => m.contains i) = true := by rfl) : DS X g E k mb m m' st f := PSimp h fun _ _ _ q => weakIn (t := []) hm q
theorem ds_out {m1 : List Nat} (h : DS X g E k mb m m1 st f) (hm : m'.all (fun i => m1.contains i) = true := by rfl) : DS X g E k mb m m' st f := PSimp h fun _ _ _ q => weakOut hm q
theorem ds_pass : DS X g E k mb m m (.Pass pos) fSkip := PSimp ps_pass fun D σ H ⟨H0, F0, F, ρ, d, R, hf, h1, h2, h3, h4, h5⟩ => h1 σ H F ρ R (Ex.refl _) hf
theorem ds_break : DS X g E k m m m' (.Break pos) fBrk := PSimp ps_break fun D σ H ⟨H0, F0, F, ρ, d, R, hf, h1, h2, h3, h4, h5⟩ => h2 σ H F ρ R (Ex.refl _) hf
theorem ds_continue : DS X g E k m m m' (.Continue pos) fCnt := PSimp ps_continue fun D σ H ⟨H0, F0, F, ρ, d, R, hf, h1, h2, h3, h4, h5⟩ => h3 σ H F ρ R (Ex.refl _) hf
theorem ds_never : DS X g E k mb m m' st fNever := PSimp ps_never fun D σ H ⟨H0, F0, F, ρ, d, R, hf, _⟩ => hf.elim
theorem dss_never : DSs X g E k mb m m' sts fNever := PSsimp pss_never fun D σ H ⟨H0, F0, F, ρ, d, R, hf, _⟩ => hf.elim
theorem ds_if {c : Expr} {ss' : List Stmt} (hc : DT X g E m c ft) (ha : DSs X g E k mb m m' sts f) (hb : DSs X g E k mb m m' ss' f') : DS X g E k mb m m' (.If c sts ss' pos) (fIfS ft f f') := PSimp (ps_if hc ha hb) fun D σ H ⟨H0, F0, F, ρ, d, R, hf, h1, h2, h3, h4, h5⟩ =>
  ⟨H0, F0, F, ρ, _, d.x, R, hf, fun b H' F' r hb => by
    have R' := R.step r
    have e := r.f0
    cases b with
    | true =>
      rw [if_pos rfl] at hb
      exact iteT ⟨H0, F0, F', ρ, d, R', hb, fun σ2 H2 F2 ρ2 R2 e2 => h1 σ2 H2 F2 ρ2 R2 (e.trans e2), fun σ2 H2 F2 ρ2 R2 e2 => h2 σ2 H2 F2 ρ2 R2 (e.trans e2), fun σ2 H2 F2 ρ2 R2 e2 => h3 σ2 H2 F2 ρ2 R2 (e.trans e2), h4, h5⟩
    | false =>
      rw [if_neg Bool.false_ne_true] at hb
      exact iteF ⟨H0, F0, F', ρ, d, R', hb, fun σ2 H2 F2 ρ2 R2 e2 => h1 σ2 H2 F2 ρ2 R2 (e.trans e2), fun σ2 H2 F2 ρ2 R2 e2 => h2 σ2 H2 F2 ρ2 R2 (e.trans e2), fun σ2 H2 F2 ρ2 R2 e2 => h3 σ2 H2 F2 ρ2 R2 (e.trans e2), h4, h5⟩, h5.step R.fr⟩
theorem ds_ret (h : DE X g E m e fe) : DS X g E false mb m m' (.Return (some e) pos) (fRet fe) := PSimp (ps_ret h) fun D σ H ⟨H0, F0, F, ρ, d, R, hf, h1, h2, h3, h4, h5⟩ =>
  ⟨H0, F0, F, ρ, _, d.x, R, hf, fun v H' F' r q i hd => h4 v H' F' r (R.fr.trans q) i hd, h5.step R.fr⟩
/-- a new list handed back -/
theorem ds_retF (h : DF X g E m e fe) : DS X g E true mb m m' (.Return (some e) pos) (fRet fe) := PSimp (ps_ret h) fun D σ H ⟨H0, F0, F, ρ, d, R, hf, h1, h2, h3, h4, h5⟩ =>
  ⟨H0, F0, F, ρ, _, d.x, R, hf, fun p H' F' vs xs q n e1 e2 ha hd => h4 _ H' F' _ (R.fr.trans q) ⟨p, vs, xs, rfl, rfl, e1, ha, e2, R.fr.back n⟩ hd, h5.step R.fr⟩
/-- the list that a slot holds -/
def fVarL (i : Nat) : FE := fun ρ q _ => match ρ[i]? with | some (some (.lst xs)) => q (.lst xs) | _ => False
/-- a list of ours handed back -/
theorem ds_retO {i : Nat} (h : PE X e (tVar i)) (hm : m.contains i = true := by rfl) : DS X g E true mb m m' (.Return (some e) pos) (fRet (fVarL i)) := PSimp (ps_ret h) fun D σ H ⟨H0, F0, F, ρ, d, R, hf, h1, h2, h3, h4, h5⟩ => by
  obtain ⟨oa, q1, _⟩ := R.own
  obtain ⟨o, u, e1, e2, e3, e4, e5, e6⟩ := q1 i (by simpa using hm)
  have hf' : fVarL i ρ d.rt d.x := hf
  unfold fVarL at hf'
  rw [e2] at hf'
  cases e4 with
  | lst e4 => exact ⟨_, e1, h4 _ H F _ R.fr ⟨_, _, _, rfl, rfl, e3, e4, e5, e6⟩ hf'⟩
  | dtu _ _ => exact hf'.elim
theorem ds_retN : DS X g E false mb m m' (.Return none pos) fRetN := PSimp ps_retN fun D σ H ⟨H0, F0, F, ρ, d, R, hf, h1, h2, h3, h4, h5⟩ => h4 _ H F _ R.fr Is.non hf
theorem ds_expr (h : DE X g E m e fe) (hs : swapsWith e none pos.line X.env = pure false := by rfl) : DS X g E k mb m m (.Expr e pos) (fDrop fe) := PSimp (ps_expr h hs) fun D σ H ⟨H0, F0, F, ρ, d, R, hf, h1, h2, h3, h4, h5⟩ =>
  ⟨H0, F0, F, ρ, _, d.x, R, hf, fun v H' F' r q i hd => h1 σ H' F' ρ (R.step q) q.f0 hd, h5.step R.fr⟩
/-- target = e -/
theorem ds_asg {tg : Expr} {tf : FG} (he : DE X g E m e fe) (hg : DG X g m m' tg tf) (hs : swapsWithSole [tg] e pos.line X.env = pure false := by rfl) (hw : swappedStores [tg] e X.env = pure none := by rfl)
    (h1 : (assignEach [tg] X.env).map (·.2) = [assign tg X.env] := by rfl) : DS X g E k mb m m' (.Assign [tg] e pos) (fAsg fe tf) := PSimp (ps_asg he hg hs hw h1) fun D σ H ⟨H0, F0, F, ρ, d, R, hf, h1, h2, h3, h4, h5⟩ =>
  ⟨H0, F0, F, ρ, _, d.x, R, hf, fun v H' F' r q i hd => ⟨H0, F0, F', ρ, r, d.nx, R.step q, i, hd, fun σ' ρ' R' hn => h1 σ' H' F' ρ' R' q.f0 hn⟩, h5.step R.fr⟩
theorem ds_set {i : Nat} {x : Str} {pos' : Pos} (hN : X.N.Nodup) (hi : X.N[i]? = some x) (hx : Loc X.env.scope x) (he : DE X g E m e fe) (hs : swapsWith e (some (.Name x pos')) pos.line X.env = pure false := by rfl) (hf : X.fn x = true ∨ X.env.scope.names.lookup x = some .local := by first | exact .inl rfl | exact .inr rfl | assumption) :
    DS X g E k mb m (del m i) (.Assign [.Name x pos'] e pos) (fAsg fe (fName i)) := PSimp (ps_set hN hi hx he hs hf) fun D σ H ⟨H0, F0, F, ρ, d, R, hf, h1, h2, h3, h4, h5⟩ =>
  ⟨H0, F0, F, ρ, _, d.x, R, hf, fun v H' F' r q i hd => h1 _ H' F' _ ((R.step q).set i hd.1) q.f0 hd.2, h5.step R.fr⟩
/-- name = a new list, ours -/
theorem ds_setF {i : Nat} {x : Str} {pos' : Pos} (hN : X.N.Nodup) (hi : X.N[i]? = some x) (hx : Loc X.env.scope x) (he : DF X g E m e fe) (hs : swapsWith e (some (.Name x pos')) pos.line X.env = pure false := by rfl) (hf : X.fn x = true ∨ X.env.scope.names.lookup x = some .local := by first | exact .inl rfl | exact .inr rfl | assumption) :
    DS X g E k mb m (i :: del m i) (.Assign [.Name x pos'] e pos) (fAsg fe (fName i)) := PSimp (ps_set hN hi hx he hs hf) fun D σ H ⟨H0, F0, F, ρ, d, R, hf, h1, h2, h3, h4, h5⟩ =>
  ⟨H0, F0, F, ρ, _, d.x, R, hf, fun p H' F' vs xs q n e1 e2 ha hd => h1 _ H' F' _ ((R.step q).setO hd.1 e1 e2 (R.fr.back n) ha fun j v ej hj z => by
    subst z
    obtain ⟨oa, q1, _⟩ := R.own
    obtain ⟨vs', xs', e1', _, e3', _⟩ := q1 j hj
    rw [ej] at e1'
    cases e1'
    rw [n] at e3'
    cases e3') q.f0 hd.2, h5.step R.fr⟩
end

/-! ### loops -/
/-- the turns over the items -/
def forL (t : FG) (b : FS) (d : DEnds) : List D → Ro → Prop
  | [], ρ => d.nx ρ
  | a :: r, ρ => t a ρ fun ρ1 => b ρ1 { d with nx := fun ρ2 => forL t b d r ρ2, ct := fun ρ2 => forL t b d r ρ2, bk := d.nx }
def fFor (i : FI) (t : FG) (b : FS) : FS := fun ρ d => i ρ (fun ds => forL t b d ds ρ) d.x
section
variable {X : Cx} {g : Gd} {E : XK} {k : Bool} {mb m mt : List Nat} {body : List Stmt} {b : FS} {iter tg : Expr} {fi : FI} {t : FG} {pos : Pos}
theorem ds_for (hp : PassesOwn (model X.prog X.w) X.A X.env X.xe) (hc : X.calm = true) (hi : DI X g E m tg iter fi) (hg : DG X g m mt tg t) (hb : DSs X g E k m mt m body b) (hs : ∀ x, foldedSetIterable iter X.env x = pure x := by intro _; rfl) :
    DS X g E k mb m m (.For tg iter body [] pos) (fFor fi t b) := PSimp (ps_for hp hc hi hg hb hs) fun D σ H ⟨H0, F0, F, ρ, d, R, hf, h1, h2, h3, h4, h5⟩ => by
  refine ⟨H0, F0, F, ρ, _, d.x, R, hf, fun J H1 F1 ds r1 y hd => ?_, h5.step R.fr⟩
  refine ⟨fun i mm σ' H' => mm = ds.length - i ∧ i ≤ ds.length ∧ ∃ F' ρ', Rel X.K g H0 F0 m σ' H' F' ρ' ∧ Ex F1 F' ∧ forL t b d (ds.drop i) ρ', ⟨_, rfl, Nat.zero_le _, F1, ρ, R.step r1, Ex.refl _, hd⟩, ?_⟩
  rintro i mm σ' H' ⟨rfl, hi, F', ρ', R', ex, hl⟩
  by_cases hlt : i < ds.length
  · refine .inr ⟨y.go i H' (ex.trans R'.fr.sub) hlt, fun σ2 H2 => ∃ F2 ρ2, Rel X.K g H0 F0 m σ2 H2 F2 ρ2 ∧ Ex F1 F2 ∧ forL t b d (ds.drop (i + 1)) ρ2, fun σ2 H2 ⟨F2, ρ2, R2, ex2, hl2⟩ => ⟨ds.length - (i + 1), by omega, rfl, hlt, F2, ρ2, R2, ex2, hl2⟩, fun x H2 hy => ?_⟩
    obtain ⟨F2, r2, is2⟩ := y.yl g i ds[i] H' F' x H2 R'.fr.self ex (List.getElem?_eq_getElem hlt) hy
    rw [List.drop_eq_getElem_cons hlt] at hl
    have R2 := R'.step r2
    refine ⟨H0, F0, F2, ρ', ds[i], _, R2, is2, hl, fun σ3 ρ3 R3 hb3 => ?_⟩
    have ex2 : Ex F1 F2 := ex.trans r2.f0
    refine ⟨H0, F0, F2, ρ3, _, R3, hb3, fun σ4 H4 F4 ρ4 R4 e4 n4 => ⟨F4, ρ4, R4, ex2.trans e4, n4⟩, fun σ4 H4 F4 ρ4 R4 e4 n4 => h1 σ4 H4 F4 ρ4 R4 (r1.f0.trans (ex2.trans e4)) n4, fun σ4 H4 F4 ρ4 R4 e4 n4 => ⟨F4, ρ4, R4, ex2.trans e4, n4⟩, h4, h5⟩
  · have e : i = ds.length := by omega
    subst e
    rw [List.drop_length] at hl
    exact .inl ⟨y.stop _ H' (ex.trans R'.fr.sub) (Nat.le_refl _), h1 σ' H' F' ρ' R' (r1.f0.trans ex) hl⟩
end
end DL

/-! DL5: what a def promises over data; its body; its calls. -/
namespace DL
open PySem PySem.Spec PyProof.Rows L2
section
variable {P : Program} {w : World} {K : PySem.W.Frag} {mg : Str → Option Value} {base : Heap} {CX : CXT} {f : Addr} {fd : FuncData} {ps : List Str} {sp : Sp}
/-- as FnOk, where nothing is being shown (repr) around the call -/
structure FnG (P : Program) (w : World) (K : PySem.W.Frag) (mg : Str → Option Value) (base : Heap) (CX : CXT) (k : Nat) (f : Addr) (fd : FuncData) (ps : List Str) (sp : Sp) : Prop where
  len : ∀ vs H Q E, sp vs H Q E → vs.length = ps.length
  run : ∀ (A : Around) (outer : List Env) (s : Shared) (H : Hp) (args : Args) (us : List Value) (vs : List V) (Q : VK) (E : XK), Room k A → A.guards = some [] → Env0 P w K mg base A outer s H → BindsTo s fd args (ps.zip us) → Vals vs us → sp vs H Q E →
    codeAny (model P w) A (.call (.ref f) args) (CR CX outer P w H s Q E) s
theorem FnG.mono {j k : Nat} (F : FnG P w K mg base CX j f fd ps sp) (h : j ≤ k) : FnG P w K mg base CX k f fd ps sp := ⟨F.len, fun A outer s H args us vs Q E hr => F.run A outer s H args us vs Q E (hr.mono h)⟩
theorem deeper_guards {A : Around} {env : Env} (h : A.guards = some []) : (A.deeper env).guards = some [] := h
/-- every parameter is a local name or a cell that is laid -/
theorem par_laid {ps N : List Str} {sc : Scope} (S : FnScope N ps sc) (n : Nat) (us : List Value) {y : Str × Value} (h : y ∈ ps.zip us) :
    sc.names.lookup y.1 = some .local ∨ (sc.names.lookup y.1 = some .cell ∧ ((cellsFrom n sc.names []).lookup y.1).isSome = true) :=
  (S.par y.1 (List.of_mem_zip (a := y.1) (b := y.2) h).1).imp id fun c => ⟨c, PySem.W.cellsFrom_some _ _ _ (.inl c)⟩
def flowV : Flow → Value
  | .ret v => v
  | _ => .none
/-- a body's end is the def's end -/
theorem flow_end {P : Program} {w : World} {X : Cx} {outer : List Env} {s : Shared} {H : Hp} {Q : VK} (h0 : X.s_0 = s) (hH : X.H_0 = H) (ho : X.outer = outer) (hP : X.prog = P) (hw : X.w = w) (hx : X.ex = []) {fl : Flow} {s' : Shared}
    (h : SP X [] { nx := fun _ H' => Q .non H', rt := Q } fl s') : CE outer P w H s Q (flowV fl) s' := by
  subst h0 hH ho hP hw
  have give : ∀ {τ : L2.St} {J : Hp} {v : V} {u : Value}, Inv X [] τ J s' → RelV v u → Q v J → CE X.outer X.prog X.w X.H_0 X.s_0 Q u s' := fun {_ J v _} I e q => by
    have hu := I.base
    rw [hx] at hu
    exact ⟨v, J, I.os, I.bare, hu, I.hok, e, q⟩
  match fl, h with
  | .ret _, ⟨_, _, _, I, e, q⟩ => exact give I e q
  | .next, ⟨_, _, I, q⟩ => exact give (v := .non) (u := .none) I rfl q
  | .brk, ⟨_, _, _, q⟩ => exact q.elim
  | .cont, ⟨_, _, _, q⟩ => exact q.elim
theorem fnG_of {k : Nat} {name qual : Str} {params : Arguments} {body : List Stmt} {scope : Scope} {dV kV doc pm cdv ct oc : Value} {an od : Option Addr}
    {osl : Array (Option Value)} {N : List Str} (here : K.lookup f = some ⟨oc, od, .func (PySem.W.fnOf name qual params body scope dV kV doc pm an cdv ct), osl⟩) (code : PySem.W.codeIn K cdv qual = true) (S : FnScope N ps scope)
    (len : ∀ vs H Q E, sp vs H Q E → vs.length = ps.length)
    (walk : ∀ (A : Around) (outer : List Env) (s : Shared) (H : Hp) (vs : List V) (Q : VK) (E : XK), Room k (A.deeper (envOfC qual scope s.heap.objs.size f cdv)) → (A.deeper (envOfC qual scope s.heap.objs.size f cdv)).guards = some [] → sp vs H Q E →
      ∃ t, PSs (cxOf CX P w K mg base N qual scope f cdv A outer s H E) body t ∧ t { nx := fun _ H' => Q .non H', rt := Q } (L2.start N vs) H) :
    FnG P w K mg base CX (k + 1) f (PySem.W.fnOf name qual params body scope dV kV doc pm an cdv ct) ps sp where
  len := len
  run A outer s H args us vs Q E room quiet env0 bind rel want := by
    have std : ∀ b o, base.get? b = some o → s.heap.get? b = some o := fun b o z => (env0.bs b o z).1
    have kin := env0.mod.kin.keeps std
    obtain ⟨t, der, sat⟩ := walk A outer s H vs Q E (room.deeper _) (deeper_guards quiet) want
    apply codeAny_call_function room.depth (kin _ _ here) rfl S.co S.gen rfl (PySem.W.codeRec_of kin code)
    apply bind
    apply wpAny_newFunctionEnv_cells S.kind (fun y hy => par_laid S _ us hy)
    rintro _ rfl s1 laid
    refine ⟨(env0.mod.nolimit.keeps std).keeps laid.toInCall.keep, codeAny_func ?_⟩
    exact wpAny_mono (der.run [] s1 _ H _ (inv_start S room.hd env0 (len _ _ _ _ want) rel laid) sat) (fun fl s' z => by
      have q := flow_end (outer := outer) (P := P) (w := w) (H := H) (s := s) rfl rfl rfl rfl rfl rfl z
      cases fl <;> exact q) fun _ _ z => z
end
/-- nothing leaves -/
theorem passN {X : Cx} {E : XK} : Passes CX0 X E := fun _ _ _ _ _ _ _ h => h.elim
section
variable {X : Cx} {CX : CXT} {k : Nat} {f : Addr} {fd : FuncData} {ps : List Str} {sp : Sp} {dvs : List V} {ds : List Value} {E : XK} {x : Str} {p pos : Pos} {e : Expr} {es : List Expr} {t tk : TA}
theorem run_fnG {pins : List (Addr × Obj)} {σ : L2.St} {H : Hp} {s : Shared} {Q : VK} {us ws : List Value} {vs : List V} {args : Args} (F : FnG X.prog X.w X.K X.mg X.base CX k f fd ps sp) (hr : Room k X.A) (hG : X.A.guards = some []) (hx : Passes CX X E)
    (I : Inv X pins σ H s) (hb : BindsTo s fd args (ps.zip us)) (r : Vals vs us) (h : sp vs H Q E) : codeAny (model X.prog X.w) X.A (.call (.ref f) args) (fun r s' => match r with | .ok (.ret u) => EP X pins σ Q u s' | .ok _ => False | .error e => X.xe e s') s := by
  refine codeAny_mono (F.run X.A X.stack s H args us vs Q E hr hG I.env0 hb r h) fun r s' hq => ?_
  cases r with
  | error e => exact hx pins σ H s e s' I hq
  | ok fl =>
    cases fl with
    | ret u => exact I.after hq
    | next => exact False.elim hq
    | brk => exact False.elim hq
    | cont => exact False.elim hq
theorem call_fin {pins : List (Addr × Obj)} {σ : L2.St} {s : Shared} {Q : VK} {us : List Value} {kw : List (Str × Value)} (h : codeAny (model X.prog X.w) X.A (.call (.ref f) ⟨us, kw⟩) (fun r s' => match r with | .ok (.ret u) => EP X pins σ Q u s' | .ok _ => False | .error e => X.xe e s') s) :
    wpAny (model X.prog X.w) X.A (call (.ref f) us kw) (EP X pins σ Q) X.xe s := by
  refine wpAny_call (codeAny_mono h fun r s' hq => ?_)
  cases r with
  | error e => exact hq
  | ok fl =>
    cases fl with
    | ret u => exact hq
    | next => exact hq
    | brk => exact hq
    | cont => exact hq
theorem pe_callG (F : FnG X.prog X.w X.K X.mg X.base CX k f fd ps sp) (hr : Room k X.A) (hG : X.A.guards = some []) (hg : Gl X x) (hm : X.mg x = some (.ref f)) (hk : PySem.W.keepIn X.K (.ref f) = true) (hb : Binds X.K fd ps ds) (hd : Vals dvs ds) (hx : Passes CX X E)
    (ha : PA X (e :: es) t) (hdb : (x == ("__debug__" : Str)) = false := by decide) (he : starEach (e :: es) X.env = (false, eval e X.env) :: starEach es X.env := by rfl) (hpl : (backTo pos (starEach es X.env)).any (·.1) = false := by rfl) :
    PE X (.Call (.Name x p) (e :: es) [] pos) (tCall sp dvs E t) := by
  refine ⟨fun pins s σ H Q I h => ?_⟩
  refine wpAny_Call_Name_kw (ld_glob I hg hm ?_ hdb)
  refine PySem.W.callWith_K (h₀ := X.base) I.ok.mod.kin hk (thn (ha.run pos pins s σ H _ I h) fun us s1 ⟨vs, H1, I1, r, q⟩ => ⟨I1.kIn, ?_⟩) he hpl
  have r2 : Vals (vs ++ dvs) (us ++ ds) := r.append hd
  have hl : (us ++ ds).length = ps.length := by rw [← r2.length]; exact F.len _ _ _ _ q
  exact call_fin (run_fnG (ws := []) F hr hG hx I1 (hb s1 us I1.kIn hl) r2 q)
theorem pe_callG0 (F : FnG X.prog X.w X.K X.mg X.base CX k f fd ps sp) (hr : Room k X.A) (hG : X.A.guards = some []) (hg : Gl X x) (hm : X.mg x = some (.ref f)) (hk : PySem.W.keepIn X.K (.ref f) = true) (hb : Binds X.K fd ps ds) (hd : Vals dvs ds) (hx : Passes CX X E)
    (hdb : (x == ("__debug__" : Str)) = false := by decide) : PE X (.Call (.Name x p) [] [] pos) (tCall sp dvs E tNil) := by
  refine ⟨fun pins s σ H Q I h => ?_⟩
  refine wpAny_Call_Name_kw (ld_glob I hg hm ?_ hdb)
  have r2 : Vals ([] ++ dvs) ([] ++ ds) := hd
  have hl : ([] ++ ds).length = ps.length := by rw [← r2.length]; exact F.len _ _ _ _ h
  exact PySem.W.callWith_K0 I.kIn hk (call_fin (run_fnG (ws := []) F hr hG hx I (hb s [] I.kIn hl) r2 h))
/-- the items at these places -/
def pick {α : Type} (ix : List Nat) (l : List α) : List α := ix.filterMap fun i => l[i]?
theorem pick_vals {vs : List V} {us : List Value} (r : Vals vs us) : ∀ ix : List Nat, Vals (pick ix vs) (pick ix us)
  | [] => .nil
  | i :: ix => by
    unfold pick
    rw [List.filterMap_cons, List.filterMap_cons]
    cases e : vs[i]? with
    | none =>
      rw [r.none_of e]
      exact pick_vals r ix
    | some v =>
      obtain ⟨u, e1, e2⟩ := r.get e
      rw [e1]
      exact .cons e2 (pick_vals r ix)
theorem pick_all {K : PySem.W.Frag} {F : Hp} {vs : List V} {ds : List D} (r : IsAll K F vs ds) : ∀ ix : List Nat, IsAll K F (pick ix vs) (pick ix ds)
  | [] => .nil
  | i :: ix => by
    unfold pick
    rw [List.filterMap_cons, List.filterMap_cons]
    cases e : vs[i]? with
    | none =>
      have h := r.length
      have h1 := List.getElem?_eq_none_iff.mp e
      rw [List.getElem?_eq_none_iff.mpr (show ds.length ≤ i by omega)]
      exact pick_all r ix
    | some v =>
      obtain ⟨d, e1, e2⟩ := r.getV e
      rw [e1]
      exact .cons e2 (pick_all r ix)
/-- a call with keywords binds: n positional values, then those of the keywords ks, picked by ix -/
def KB (K : PySem.W.Frag) (fd : FuncData) (ps : List Str) (n : Nat) (ks : List Str) (ix : List Nat) : Prop :=
  ∀ (s : Shared) (us ws : List Value), K.In s.heap → us.length = n → ws.length = ks.length → BindsTo s fd ⟨us, ks.zip ws⟩ (ps.zip (pick ix (us ++ ws)))
def tCallP (n nk : Nat) (ix : List Nat) (sp : Sp) (E : XK) (t tk : TA) : TE := fun σ H Q => t σ H fun vs H1 => tk σ H1 fun zs H2 => vs.length = n ∧ zs.length = nk ∧ sp (pick ix (vs ++ zs)) H2 Q E
variable {kws : List Keyword} {n : Nat} {ks : List Str} {ix : List Nat}
theorem pe_callGK (F : FnG X.prog X.w X.K X.mg X.base CX k f fd ps sp) (hr : Room k X.A) (hG : X.A.guards = some []) (hg : Gl X x) (hm : X.mg x = some (.ref f)) (hk : PySem.W.keepIn X.K (.ref f) = true) (hb : KB X.K fd ps n ks ix) (hx : Passes CX X E)
    (ha : PA X (e :: es) t) (hkw : PK X kws tk) (hall : (backToKw pos (keywordEach kws X.env)).all (·.1.isSome) = true := by rfl) (hks : (backToKw pos (keywordEach kws X.env)).filterMap (·.1) = ks := by rfl)
    (hdb : (x == ("__debug__" : Str)) = false := by decide) (he : starEach (e :: es) X.env = (false, eval e X.env) :: starEach es X.env := by rfl)
    (hpl : ((backTo pos (starEach (e :: es) X.env)).any (·.1) || (backToKw pos (keywordEach kws X.env)).any (·.1.isNone)) = false := by rfl) :
    PE X (.Call (.Name x p) (e :: es) kws pos) (tCallP n ks.length ix sp E t tk) := by
  refine ⟨fun pins s σ H Q I h => ?_⟩
  refine wpAny_Call_Name_kw (ld_glob I hg hm ?_ hdb)
  refine PySem.W.callWith_KW (h₀ := X.base) I.ok.mod.kin hk hall (thn (ha.run pos pins s σ H _ I h) fun us s1 ⟨vs, H1, I1, r, q⟩ => ?_) hpl he
  refine thn (hkw.run pos pins s1 σ H1 _ I1 q) fun ws s2 ⟨zs, H2, I2, rz, l1, l2, q2⟩ => ⟨I2.kIn, ?_⟩
  rw [hks]
  have r2 : Vals (pick ix (vs ++ zs)) (pick ix (us ++ ws)) := pick_vals (r.append rz) ix
  exact call_fin (run_fnG (ws := []) F hr hG hx I2 (hb s2 us ws I2.kIn (by rw [← r.length]; exact l1) (by rw [← rz.length]; exact l2)) r2 q2)
theorem pe_callGK0 (F : FnG X.prog X.w X.K X.mg X.base CX k f fd ps sp) (hr : Room k X.A) (hG : X.A.guards = some []) (hg : Gl X x) (hm : X.mg x = some (.ref f)) (hk : PySem.W.keepIn X.K (.ref f) = true) (hb : KB X.K fd ps 0 ks ix) (hx : Passes CX X E)
    (hkw : PK X kws tk) (hall : (backToKw pos (keywordEach kws X.env)).all (·.1.isSome) = true := by rfl) (hks : (backToKw pos (keywordEach kws X.env)).filterMap (·.1) = ks := by rfl)
    (hdb : (x == ("__debug__" : Str)) = false := by decide)
    (hpl : ((backTo pos (starEach [] X.env)).any (·.1) || (backToKw pos (keywordEach kws X.env)).any (·.1.isNone)) = false := by rfl) :
    PE X (.Call (.Name x p) [] kws pos) (tCallP 0 ks.length ix sp E tNil tk) := by
  refine ⟨fun pins s σ H Q I h => ?_⟩
  refine wpAny_Call_Name_kw (ld_glob I hg hm ?_ hdb)
  refine PySem.W.callWith_KW0 (h₀ := X.base) I.ok.mod.kin hk hall ?_ hpl
  refine thn (hkw.run pos pins s σ H _ I h) fun ws s2 ⟨zs, H2, I2, rz, l1, l2, q2⟩ => ⟨I2.kIn, ?_⟩
  rw [hks]
  have r2 : Vals (pick ix ([] ++ zs)) (pick ix ([] ++ ws)) := pick_vals rz ix
  exact call_fin (run_fnG (ws := []) F hr hG hx I2 (hb s2 [] ws I2.kIn rfl (by rw [← rz.length]; exact l2)) r2 q2)
end

/-! ### promises over data -/
abbrev Fn := List D → (D → Prop) → XD → Prop
/-- a def that does not see the deck; kd: it hands back a new list -/
def spN (K : PySem.W.Frag) (kd : Bool) (f : Fn) : Sp := fun vs H Q E => ∃ F ds q x, Fr none H F H F ∧ IsAll K F vs ds ∧ f ds q x ∧ (∀ v H' F' d, Fr none H F H' F' → RetIs K kd H H' F' v d → q d → Q v H') ∧ XE K none H F x E
/-- a def whose first parameter is the deck (its list's name: nm) -/
def spG (K : PySem.W.Frag) (nm : Str) (kd : Bool) (f : Fn) : Sp := fun vs H Q E => ∃ d l F ds q x, Fr (some (nm, d, l)) H F H F ∧ IsAll K F vs (.ref d :: ds) ∧ f ds q x ∧ (∀ v H' F' r, Fr (some (nm, d, l)) H F H' F' → RetIs K kd H H' F' v r → q r → Q v H') ∧ XE K (some (nm, d, l)) H F x E
section
variable {P : Program} {w : World} {K : PySem.W.Frag} {mg : Str → Option Value} {base : Heap} {f : Addr} {fd : FuncData} {N ps : List Str} {k n : Nat} {fn : Fn} {kd : Bool} {nm qual x : Str} {params : Arguments} {body : List Stmt} {scope : Scope} {dvs : List V}
/-- the slots at the entry -/
def startD (n : Nat) (ds : List D) : Ro := ds.map some ++ List.replicate (n - ds.length) none
theorem start_rel {g : Gd} {H F : Hp} {vs : List V} {ds : List D} (r : Fr g H F H F) (h : IsAll K F vs ds) : Rel K g H F [] (L2.start N vs) H F (startD N.length ds) := by
  have hl := h.length
  refine ⟨r, ?_, fun i d e _ => ?_, fun _ => 0, fun i hi => (by cases hi), fun i hi => (by cases hi)⟩
  · unfold L2.start startD
    rw [List.length_append, List.length_append, List.length_map, List.length_map, List.length_replicate, List.length_replicate, hl]
  · unfold startD at e
    by_cases hi : i < ds.length
    · rw [List.getElem?_append_left (by simpa using hi), List.getElem?_map, List.getElem?_eq_getElem hi] at e
      cases e
      obtain ⟨v, e1, e2⟩ := h.get (List.getElem?_eq_getElem hi)
      refine ⟨v, ?_, e2⟩
      unfold L2.start
      rw [List.getElem?_append_left (by rw [List.length_map]; omega), List.getElem?_map, e1]
      rfl
    · rw [List.getElem?_append_right (by simpa using hi), List.getElem?_replicate] at e
      split at e <;> cases e
abbrev entry (kd : Bool) (q : D → Prop) (x : XD) : DEnds := ⟨fun _ => kd = false ∧ q .non, fun _ => False, fun _ => False, q, x⟩
/-- THE RULE for a def without the deck -/
theorem okN (F : FunD K x qual params body scope dvs [] f fd) (S : FnScope N ps scope) (hl : ∀ ds q x, fn ds q x → ds.length = ps.length)
    (hbody : ∀ (cdv : Value) (A : Around) (outer : List Env) (s : Shared) (H : Hp) (E : XK), Room k (A.deeper (envOfC qual scope s.heap.objs.size f cdv)) → (A.deeper (envOfC qual scope s.heap.objs.size f cdv)).guards = some [] →
      ∃ m' fb, DSs (cxOf CX0 P w K mg base N qual scope f cdv A outer s H E).nox none E kd [] [] m' body fb ∧ ∀ ds q x, fn ds q x → fb (startD N.length ds) (entry kd q x)) :
    FnG P w K mg base CX0 (k + 1) f fd ps (spN K kd fn) := by
  obtain ⟨oc, od, dV, kV, doc, pm, an, cdv, ct, osl, rfl, lk, hcd, _, _⟩ := F.ex
  refine fnG_of lk hcd S (fun vs H Q E ⟨F, ds, q, x, _, h, hf, _⟩ => by rw [h.length]; exact hl _ _ _ hf) fun A outer s H vs Q E hr hG ⟨F, ds, q, x, r, h, hf, hq, hx⟩ => ?_
  obtain ⟨m', fb, hd, hs⟩ := hbody cdv A outer s H E hr hG
  refine ⟨_, hd.nox, H, F, F, startD N.length ds, entry kd q x, start_rel r h, hs ds q x hf, fun σ' H' F' ρ' R _ hn => ?_, fun _ _ _ _ _ _ z => z.elim, fun _ _ _ _ _ _ z => z.elim, fun v H' F' d r2 i hd2 => hq v H' F' d r2 i hd2, hx⟩
  obtain ⟨rfl, hn⟩ := hn
  exact hq .non H' F' .non R.fr Is.non hn
/-- .. with the deck -/
theorem okG (F : FunD K x qual params body scope dvs [] f fd) (S : FnScope N ps scope) (hl : ∀ ds q x, fn ds q x → ds.length + 1 = ps.length)
    (hbody : ∀ (cdv : Value) (A : Around) (outer : List Env) (s : Shared) (H : Hp) (E : XK) (d l : Addr), Room k (A.deeper (envOfC qual scope s.heap.objs.size f cdv)) → (A.deeper (envOfC qual scope s.heap.objs.size f cdv)).guards = some [] →
      ∃ m' fb, DSs (cxOf CX0 P w K mg base N qual scope f cdv A outer s H E).nox (some (nm, d, l)) E kd [] [] m' body fb ∧ ∀ ds q x, fn ds q x → fb (startD N.length (.ref d :: ds)) (entry kd q x)) :
    FnG P w K mg base CX0 (k + 1) f fd ps (spG K nm kd fn) := by
  obtain ⟨oc, od, dV, kV, doc, pm, an, cdv, ct, osl, rfl, lk, hcd, _, _⟩ := F.ex
  refine fnG_of lk hcd S (fun vs H Q E ⟨d, l, F, ds, q, x, _, h, hf, _⟩ => by rw [h.length, List.length_cons]; exact hl _ _ _ hf) fun A outer s H vs Q E hr hG ⟨d, l, F, ds, q, x, r, h, hf, hq, hx⟩ => ?_
  obtain ⟨m', fb, hd, hs⟩ := hbody cdv A outer s H E d l hr hG
  refine ⟨_, hd.nox, H, F, F, startD N.length (.ref d :: ds), entry kd q x, start_rel r h, hs ds q x hf, fun σ' H' F' ρ' R _ hn => ?_, fun _ _ _ _ _ _ z => z.elim, fun _ _ _ _ _ _ z => z.elim, fun v H' F' d r2 i hd2 => hq v H' F' d r2 i hd2, hx⟩
  obtain ⟨rfl, hn⟩ := hn
  exact hq .non H' F' .non R.fr Is.non hn
end

/-! ### calls -/
def fCall (f : Fn) (dd : List D) (fs : FA) : FE := fun ρ q x => fs ρ (fun ds => f (ds ++ dd) q x) x
/-- the deck, then the arguments -/
def fCallG (f : Fn) (d : Addr) (fs : FA) : FE := fun ρ q x => fs ρ (fun ds => match ds with | .ref a :: r => a = d ∧ f r q x | _ => False) x
def fCallK (f : Fn) (n nk : Nat) (ix : List Nat) (fs fk : FA) : FE := fun ρ q x => fs ρ (fun ds => fk ρ (fun es => ds.length = n ∧ es.length = nk ∧ f (pick ix (ds ++ es)) q x) x) x
section
variable {X : Cx} {g : Gd} {E : XK} {m : List Nat} {CX : CXT} {k : Nat} {f : Addr} {fd : FuncData} {ps : List Str} {fn : Fn} {dvs : List V} {dd : List D} {dss : List Value} {x : Str} {p pos : Pos} {e : Expr} {es : List Expr} {fs fk : FA} {kws : List Keyword} {n : Nat} {ks : List Str} {ix : List Nat}
theorem XE.bare {K : PySem.W.Frag} {H F : Hp} {x : XD} {H0 F0 : Hp} (r : Fr g H0 F0 H F) (h : XE K g H F x E) : XE K (Option.none : Gd) H F x E := fun C dx H' F' v d q n e i hx => h C dx H' F' v d (r.lift q) n e i hx
theorem call_N {K : PySem.W.Frag} {t : TA} {σ : L2.St} {H : Hp} {Q : VK} (ht : t = tA K g E m fs) (hd : ∀ F, IsAll K F dvs dd) (h : tE K g E m (fCall fn dd fs) σ H Q) : tCall (spN K false fn) dvs E t σ H Q := by
  subst ht
  obtain ⟨H0, F0, F, ρ, q, x, R, hf, hq, hx⟩ := h
  refine ⟨H0, F0, F, ρ, _, x, R, hf, fun vs H1 F1 ds r1 i1 hs => ?_, hx⟩
  have R1 := R.step r1
  exact ⟨F1, ds ++ dd, q, x, R1.fr.bare, i1.append (hd F1), hs, fun v H' F' d r2 i2 hd2 => hq v H' F' d (r1.trans (R1.fr.lift r2)) i2 hd2, XE.bare R1.fr (hx.step r1)⟩
theorem call_NF {K : PySem.W.Frag} {t : TA} {σ : L2.St} {H : Hp} {Q : VK} (ht : t = tA K g E m fs) (hd : ∀ F, IsAll K F dvs dd) (h : tF K g E m (fCall fn dd fs) σ H Q) : tCall (spN K true fn) dvs E t σ H Q := by
  subst ht
  obtain ⟨H0, F0, F, ρ, q, x, R, hf, hq, hx⟩ := h
  refine ⟨H0, F0, F, ρ, _, x, R, hf, fun vs H1 F1 ds r1 i1 hs => ?_, hx⟩
  have R1 := R.step r1
  refine ⟨F1, ds ++ dd, q, x, R1.fr.bare, i1.append (hd F1), hs, fun v H' F' d r2 i2 hd2 => ?_, XE.bare R1.fr (hx.step r1)⟩
  obtain ⟨a, vs', xs, rfl, rfl, e1, e2, e3, e4⟩ := i2
  exact hq a H' F' vs' xs (r1.trans (R1.fr.lift r2)) (r1.back e4) e1 e3 e2 hd2
variable (hr : Room k X.A) (hG : X.A.guards = some []) (hg : Gl X x) (hm : X.mg x = some (.ref f)) (hk : PySem.W.keepIn X.K (.ref f) = true) (hx : Passes CX X E)
include hr hG hg hm hk hx
theorem de_call (F : FnG X.prog X.w X.K X.mg X.base CX k f fd ps (spN X.K false fn)) (hb : Binds X.K fd ps dss) (hd : Vals dvs dss) (hdd : ∀ F, IsAll X.K F dvs dd) (ha : DA X g E m (e :: es) fs)
    (hdb : (x == ("__debug__" : Str)) = false := by decide) (he : starEach (e :: es) X.env = (false, eval e X.env) :: starEach es X.env := by rfl) (hpl : (backTo pos (starEach es X.env)).any (·.1) = false := by rfl) :
    DE X g E m (.Call (.Name x p) (e :: es) [] pos) (fCall fn dd fs) := PEimp (pe_callG F hr hG hg hm hk hb hd hx ha hdb he hpl) fun σ H Q h => call_N rfl hdd h
theorem df_call (F : FnG X.prog X.w X.K X.mg X.base CX k f fd ps (spN X.K true fn)) (hb : Binds X.K fd ps dss) (hd : Vals dvs dss) (hdd : ∀ F, IsAll X.K F dvs dd) (ha : DA X g E m (e :: es) fs)
    (hdb : (x == ("__debug__" : Str)) = false := by decide) (he : starEach (e :: es) X.env = (false, eval e X.env) :: starEach es X.env := by rfl) (hpl : (backTo pos (starEach es X.env)).any (·.1) = false := by rfl) :
    DF X g E m (.Call (.Name x p) (e :: es) [] pos) (fCall fn dd fs) := PEimp (pe_callG F hr hG hg hm hk hb hd hx ha hdb he hpl) fun σ H Q h => call_NF rfl hdd h
/-- a call with the deck -/
theorem de_callG {nm : Str} {d l : Addr} (F : FnG X.prog X.w X.K X.mg X.base CX k f fd ps (spG X.K nm false fn)) (hb : Binds X.K fd ps []) (ha : DA X (some (nm, d, l)) E m (e :: es) fs)
    (hdb : (x == ("__debug__" : Str)) = false := by decide) (he : starEach (e :: es) X.env = (false, eval e X.env) :: starEach es X.env := by rfl) (hpl : (backTo pos (starEach es X.env)).any (·.1) = false := by rfl) :
    DE X (some (nm, d, l)) E m (.Call (.Name x p) (e :: es) [] pos) (fCallG fn d fs) := PEimp (pe_callG F hr hG hg hm hk hb .nil hx ha hdb he hpl) fun σ H Q h => by
  obtain ⟨H0, F0, F, ρ, q, x, R, hf, hq, hx⟩ := h
  refine ⟨H0, F0, F, ρ, _, x, R, hf, fun vs H1 F1 ds r1 i1 hs => ?_, hx⟩
  have R1 := R.step r1
  split at hs
  · obtain ⟨rfl, hs⟩ := hs
    show spG X.K nm false fn (vs ++ []) H1 Q E
    rw [List.append_nil]
    exact ⟨_, l, F1, _, q, x, R1.fr.self, i1, hs, fun v H' F' r r2 i2 hd2 => hq v H' F' r (r1.trans r2) i2 hd2, hx.step r1⟩
  · exact hs.elim
abbrev DK (X : Cx) (g : Gd) (E : XK) (m : List Nat) (kws : List Keyword) (f : FA) : Prop := PK X kws (tA X.K g E m f)
/-- a call with keywords -/
theorem de_callK (F : FnG X.prog X.w X.K X.mg X.base CX k f fd ps (spN X.K false fn)) (hb : KB X.K fd ps n ks ix) (ha : DA X g E m (e :: es) fs) (hkw : DK X g E m kws fk)
    (hall : (backToKw pos (keywordEach kws X.env)).all (·.1.isSome) = true := by rfl) (hks : (backToKw pos (keywordEach kws X.env)).filterMap (·.1) = ks := by rfl)
    (hdb : (x == ("__debug__" : Str)) = false := by decide) (he : starEach (e :: es) X.env = (false, eval e X.env) :: starEach es X.env := by rfl)
    (hpl : ((backTo pos (starEach (e :: es) X.env)).any (·.1) || (backToKw pos (keywordEach kws X.env)).any (·.1.isNone)) = false := by rfl) :
    DE X g E m (.Call (.Name x p) (e :: es) kws pos) (fCallK fn n ks.length ix fs fk) := PEimp (pe_callGK F hr hG hg hm hk hb hx ha hkw hall hks hdb he hpl) fun σ H Q ⟨H0, F0, F, ρ, q, x, R, hf, hq, hx⟩ => by
  refine ⟨H0, F0, F, ρ, _, x, R, hf, fun vs H1 F1 ds r1 i1 hs => ⟨H0, F0, F1, ρ, _, x, R.step r1, hs, fun zs H2 F2 ds2 r2 i2 hs2 => ?_, hx.step r1⟩, hx⟩
  have R2 := (R.step r1).step r2
  exact ⟨by rw [i1.length]; exact hs2.1, by rw [i2.length]; exact hs2.2.1, F2, _, q, x, R2.fr.bare, pick_all ((i1.up r2.f0).append i2) ix, hs2.2.2, fun v H' F' d r3 i3 hd => hq v H' F' d (r1.trans (r2.trans (R2.fr.lift r3))) i3 hd, XE.bare R2.fr ((hx.step r1).step r2)⟩
theorem de_callK0 (F : FnG X.prog X.w X.K X.mg X.base CX k f fd ps (spN X.K false fn)) (hb : KB X.K fd ps 0 ks ix) (hkw : DK X g E m kws fk)
    (hall : (backToKw pos (keywordEach kws X.env)).all (·.1.isSome) = true := by rfl) (hks : (backToKw pos (keywordEach kws X.env)).filterMap (·.1) = ks := by rfl)
    (hdb : (x == ("__debug__" : Str)) = false := by decide)
    (hpl : ((backTo pos (starEach [] X.env)).any (·.1) || (backToKw pos (keywordEach kws X.env)).any (·.1.isNone)) = false := by rfl) :
    DE X g E m (.Call (.Name x p) [] kws pos) (fCallK fn 0 ks.length ix fNil fk) := PEimp (pe_callGK0 F hr hG hg hm hk hb hx hkw hall hks hdb hpl) fun σ H Q ⟨H0, F0, F, ρ, q, x, R, hf, hq, hx⟩ => by
  refine ⟨H0, F0, F, ρ, _, x, R, hf, fun zs H2 F2 ds2 r2 i2 hs2 => ?_, hx⟩
  have R2 := R.step r2
  exact ⟨rfl, by rw [i2.length]; exact hs2.2.1, F2, _, q, x, R2.fr.bare, pick_all i2 ix, hs2.2.2, fun v H' F' d r3 i3 hd => hq v H' F' d (r2.trans (R2.fr.lift r3)) i3 hd, XE.bare R2.fr (hx.step r2)⟩
omit hr hG hg hm hk hx
theorem dk_nil : DK X g E m [] fNil := ⟨fun pos pins s σ H Q I ⟨H0, F0, F, ρ, q, x, R, hf, hq, hx⟩ => pk_nil.run pos pins s σ H Q I (hq [] H F [] R.fr.self .nil hf)⟩
theorem dk_cons {nmk : Option Str} {kpos : Pos} {fe : FE} (h : DE X g E m e fe) (hr : DK X g E m kws fs) : DK X g E m (⟨nmk, e, kpos⟩ :: kws) (fCons fe fs) :=
  ⟨fun pos pins s σ H Q I ⟨H0, F0, F, ρ, q, x, R, hf, hq, hx⟩ => (pk_cons h hr).run pos pins s σ H Q I
    ⟨H0, F0, F, ρ, _, x, R, hf, fun v H1 F1 d r1 i1 hd => ⟨H0, F0, F1, ρ, _, x, R.step r1, hd, fun vs H2 F2 ds r2 i2 h2 => hq _ H2 F2 _ (r1.trans r2) (.cons (i1.up r2.f0) i2) h2, hx.step r1⟩, hx⟩⟩
end
end DL

/-! DL6: the law's end; the deck; parallel stores; xs[::-1]. -/
namespace DL
open PySem PySem.Spec PyProof.Rows L2
/-! ### the end of a law -/
section
variable {P : Program} {w : World} {K : PySem.W.Frag} {mg mb : Str → Option Value}
/-- the script alone is tracked (where it is no object of the text) -/
def scr (K : PySem.W.Frag) (a : Addr) (vs : List Value) (ns : List Int) : Hp := fun b =>
  if b = a ∧ K.lookup a = none then some (.frz { cls := .type "list", data := .seq vs.toArray } (.lst (ns.map V.int))) else none
theorem scr_some {a b : Addr} {vs : List Value} {ns : List Int} {o : HO} (h : scr K a vs ns b = some o) : b = a ∧ K.lookup a = none ∧ o = .frz { cls := .type "list", data := .seq vs.toArray } (.lst (ns.map V.int)) := by
  unfold scr at h
  split at h
  · rename_i q
    exact ⟨q.1, q.2, (Option.some.inj h).symm⟩
  · cases h
theorem scr_off {a b : Addr} {vs : List Value} {ns : List Int} (h : b = a → K.lookup a ≠ none) : scr K a vs ns b = none := if_neg fun q => h q.1 q.2
theorem run_law {k : Nat} {fa a : Addr} {fd : FuncData} {x : Str} {sp : Sp} {s : Shared} {vs : List Value} {ns : List Int}
    (kin : K.In s.heap) (glob : s.heap.Ns mainGlobals mg) (blt : s.heap.Ns builtinsNs mb) (bb : ∀ x : Str, x ≠ "__name__" → mb x = bootBuiltins x) (lim : s.heap.NoLimit) (nog : s.gens = #[])
    (hs : s.heap.get? a = some { cls := .type "list", data := .seq vs.toArray }) (hi : IntsAre vs ns) (hl : ns.length ≤ sizeLine) (room : Room k callerA)
    (F : ∀ base : Heap, K.In base → base.Ns mainGlobals mg → FnG P w K mg base CX0 k fa fd [x] sp) (bind : ∀ (s : Shared) (u : Value), BindsTo s fd ⟨[u], []⟩ [(x, u)])
    (want : ∀ H : Hp, SqL K H a (ns.map V.int) → sp [.ref a] H (fun v _ => v = .bl true) fun _ _ _ => False) :
    codeAny (model P w) callerA (.call (.ref fa) ⟨[.ref a], []⟩) (fun r s' => r = .ok (.ret (.bool true)) ∧ OldK s.heap s'.heap ∧ s'.os = s.os ∧ AllBare s'.gens) s := by
  have vals := vals_ints hi
  have lens := vals.length
  rw [List.length_map] at lens
  have inK : ∀ b o, K.lookup b = some o → scr K a vs ns b = none := fun b o z => scr_off fun q => by rw [← q, z]; exact fun z => by cases z
  have dictless : ∀ b o es ep, s.heap.get? b = some o → o.data = .dict es ep → scr K a vs ns b = none := fun b o es ep h1 h2 => scr_off fun q => by
    rw [q, hs] at h1
    cases h1
    cases h2
  have reads : SqL K (scr K a vs ns) a (ns.map V.int) := by
    cases hk : K.lookup a with
    | none => exact .inl (.inr ⟨_, if_pos ⟨rfl, hk⟩⟩)
    | some o =>
      have := kin a o hk
      rw [hs] at this
      cases this
      exact .inr ⟨_, vs.toArray, _, hk, rfl, rfl, rfl, by rw [List.size_toArray]; omega, by simpa using vals⟩
  have held : HOk P w (scr K a vs ns) s.heap := fun b o z => by
    obtain ⟨rfl, _, rfl⟩ := scr_some z
    exact ⟨hs, by rw [List.length_map]; exact hl, vs, _, vals, hs⟩
  have under : ∀ {b : Addr} {m : Str → Option Value}, s.heap.Ns b m → (hidT s.heap (scr K a vs ns)).Ns b m := fun {b m} ⟨o, es, ep, h1, h2, h3⟩ => ⟨o, es, ep, hidT_get h1 (dictless b o es ep h1 h2), h2, h3⟩
  have kinB : K.In (hidT s.heap (scr K a vs ns)) := fun b o z => hidT_get (kin b o z) (inK b o z)
  have limB : (hidT s.heap (scr K a vs ns)).NoLimit := by
    obtain ⟨mc, h1, h2⟩ := lim
    exact ⟨mc, under h1, h2⟩
  have env0 : Env0 P w K mg (hidT s.heap (scr K a vs ns)) callerA [] s (scr K a vs ns) :=
    ⟨rfl, ⟨kinB, under glob, ⟨mb, under blt, bb⟩, limB⟩, fun _ _ z => of_hidT z, Nat.le_of_eq (hidT_size _ _), trivial, fun _ z => (nomatch z), held, .of_eq nog⟩
  refine codeAny_mono ((F _ kinB (under glob)).run callerA [] s _ ⟨[.ref a], []⟩ [.ref a] [.ref a] _ _ room rfl env0 (bind s (.ref a)) (.cons rfl .nil) (want _ reads)) fun r s' z => ?_
  match r, z with
  | .ok (.ret u), ⟨v, H', os, bare, un, ok', e, q⟩ =>
    have q : v = .bl true := q
    subst q
    obtain rfl : u = .bool true := e
    refine ⟨rfl, OldK.of_keep fun b o h1 => ?_, os, bare⟩
    cases hb : scr K a vs ns b with
    | none => exact un.keep b o h1 hb (fun z => nomatch z) (fun z => nomatch z)
    | some u =>
      obtain ⟨rfl, _, rfl⟩ := scr_some hb
      rw [hs] at h1
      cases h1
      exact (ok' b _ (un.frzs b _ _ hb)).1
theorem walk_law {l : PySem.W.OpenLaw} {n k : Nat} {q : Program} {loose : List Str} {XP : (Str → Option Value) → Heap → Prop} {YP : World → Heap → Prop} {d : DefRec} {K : Params → PySem.W.Frag} {sp : PySem.W.Frag → Sp} {x : Str}
    (hn : l.most = some n) (hn2 : n ≤ sizeLine) (hdf : d.params.defaults = []) (hr : Room k callerA)
    (hY : ∀ (w : World) (h : Heap), YP w h → (K w.params).In h)
    (F : ∀ (w : World) (mg : Str → Option Value) (fa : Addr) (h : Heap), (K w.params).In h → h.Ns mainGlobals mg → mg d.name = some (.ref fa) →
      ∃ fd : FuncData, (∀ (s : Shared) (u : Value), BindsTo s fd ⟨[u], []⟩ [(x, u)]) ∧
        ∀ base : Heap, (K w.params).In base → base.Ns mainGlobals mg → FnG l.prog w (K w.params) mg base CX0 k fa fd [x] (sp (K w.params)))
    (hsp : ∀ (K : PySem.W.Frag) (H : Hp) (a : Addr) (ns : List Int), ns.length ≤ n → (∀ z ∈ ns, Builtin.Int.intBits z ≤ 1048576) → SqL K H a (ns.map V.int) → sp K [.ref a] H (fun v _ => v = .bl true) fun _ _ _ => False) :
    PySem.W.WalkO q loose XP YP l.row.toRowW d [] (fun f vs => PySem.call f vs) := by
  refine Att.attach_callB hn hdf fun w s₀ s mg mb fa o pm cd doc a vs ns G Y _ _ _ hmg hobj hints hlen hbits hg => ?_
  have kin := hY w _ Y
  obtain ⟨fd, hb, hF⟩ := F w mg fa _ kin G.T.g hmg
  exact run_law kin G.T.g G.T.b G.T.builtins G.T.nolimit hg hobj hints (Nat.le_trans hlen hn2) hr hF hb fun H hS => hsp _ H a ns hlen hbits hS
end

/-! ### a def by its own words -/
section
variable {P : Program} {w : World} {K : PySem.W.Frag} {mg : Str → Option Value} {base : Heap} {f : Addr} {fd : FuncData} {N ps : List Str} {k : Nat} {qual x : Str} {params : Arguments} {body : List Stmt} {scope : Scope} {dvs : List V} {sp : Sp}
theorem okRaw (F : FunD K x qual params body scope dvs [] f fd) (S : FnScope N ps scope) (hl : ∀ vs H Q E, sp vs H Q E → vs.length = ps.length)
    (hbody : ∀ (cdv : Value) (A : Around) (outer : List Env) (s : Shared) (H : Hp) (vs : List V) (Q : VK) (E : XK), Room k (A.deeper (envOfC qual scope s.heap.objs.size f cdv)) → (A.deeper (envOfC qual scope s.heap.objs.size f cdv)).guards = some [] → sp vs H Q E →
      ∃ t, PSs (cxOf CX0 P w K mg base N qual scope f cdv A outer s H E).nox body t ∧ t { nx := fun _ H' => Q .non H', rt := Q } (L2.start N vs) H) :
    FnG P w K mg base CX0 (k + 1) f fd ps sp := by
  obtain ⟨oc, od, dV, kV, doc, pm, an, cdv, ct, osl, rfl, lk, hcd, _, _⟩ := F.ex
  refine fnG_of lk hcd S hl fun A outer s H vs Q E hr hG h => ?_
  obtain ⟨t, h1, h2⟩ := hbody cdv A outer s H vs Q E hr hG h
  exact ⟨t, h1.nox, h2⟩
end

/-! ### the deck -/
def dkL (nm : Str) (l : Addr) (mi dr : Int) : List (Key × V) := [(.inr nm, .ref l), (.inr "mixed", .int mi), (.inr "draws", .int dr)]
theorem md_ne0 : ¬ (("mixed" : Str) = "draws") := by decide +kernel
theorem dm_ne0 : ¬ (("draws" : Str) = "mixed") := by decide +kernel
theorem md_ne : ¬ ((Sum.inr ("mixed" : Str) : Key) = Sum.inr ("draws" : Str)) := fun z => absurd (Sum.inr.inj z) (by decide +kernel)
theorem dm_ne : ¬ ((Sum.inr ("draws" : Str) : Key) = Sum.inr ("mixed" : Str)) := fun z => md_ne z.symm
section
variable {nm : Str} {l : Addr} {mi dr : Int} (h1 : ¬ nm = "mixed") (h2 : ¬ nm = "draws")
theorem dk_l : valV (dkL nm l mi dr) (.inr nm) = some (.ref l) := valV_pos rfl
include h1 in
theorem dk_m : valV (dkL nm l mi dr) (.inr "mixed") = some (.int mi) := by
  unfold dkL
  rw [valV_neg (fun z => h1 (Sum.inr.inj z)), valV_pos rfl]
include h2 in
theorem dk_d : valV (dkL nm l mi dr) (.inr "draws") = some (.int dr) := by
  unfold dkL
  rw [valV_neg (fun z => h2 (Sum.inr.inj z)), valV_neg md_ne, valV_pos rfl]
include h2 in
theorem dk_pd {z : Int} : putK (dkL nm l mi dr) (.inr "draws") (.int z) = dkL nm l mi z := by
  have e1 : ¬ ((Sum.inr nm : Key) = Sum.inr ("draws" : Str)) := fun z => h2 (Sum.inr.inj z)
  simp [putK, dkL, e1, md_ne0]
include h1 in
theorem dk_pm {z : Int} : putK (dkL nm l mi dr) (.inr "mixed") (.int z) = dkL nm l z dr := by
  have e1 : ¬ ((Sum.inr nm : Key) = Sum.inr ("mixed" : Str)) := fun z => h1 (Sum.inr.inj z)
  simp [putK, dkL, e1, dm_ne0]
include h1 h2 in
theorem dk_merge : mergeK [] (dkL nm l mi dr) = dkL nm l mi dr := by
  have e1 : ¬ ((Sum.inr nm : Key) = Sum.inr ("mixed" : Str)) := fun z => h1 (Sum.inr.inj z)
  have e2 : ¬ ((Sum.inr nm : Key) = Sum.inr ("draws" : Str)) := fun z => h2 (Sum.inr.inj z)
  simp [mergeK, putK, dkL, e1, e2, md_ne0]
end
theorem DeckAt.of {nm : Str} {d l : Addr} {H : Hp} {cs : List Int} {mi dr : Int} (h1 : H d = some (.dK (dkL nm l mi dr))) (h2 : H l = some (.lst (cs.map V.int))) (h3 : cs.length ≤ 63) (h4 : -(2 ^ 40) < mi ∧ mi < 2 ^ 40) (h5 : d ≠ l) : DeckAt nm d l H :=
  ⟨cs, mi, dr, h1, h2, h3, h4, h5⟩
/-- F, and the tuples of H -/
def tpH (H F : Hp) : Hp := fun a => match H a with | some (.tup xs) => some (.tup xs) | _ => F a
theorem tpH_tup {H F : Hp} {a : Addr} {xs : List V} (e : H a = some (.tup xs)) : tpH H F a = some (.tup xs) := by unfold tpH; rw [e]
theorem tpH_not {H F : Hp} {a : Addr} (e : ∀ xs, H a ≠ some (.tup xs)) : tpH H F a = F a := by
  unfold tpH
  split
  · rename_i xs h
    exact absurd h (e xs)
  · rfl
theorem tpH_cases (H F : Hp) (a : Addr) : (∃ xs, H a = some (.tup xs) ∧ tpH H F a = some (.tup xs)) ∨ ((∀ xs, H a ≠ some (.tup xs)) ∧ tpH H F a = F a) := by
  by_cases h : ∃ xs, H a = some (.tup xs)
  · obtain ⟨xs, h⟩ := h
    exact .inl ⟨xs, h, tpH_tup h⟩
  · exact .inr ⟨fun xs z => h ⟨xs, z⟩, tpH_not fun xs z => h ⟨xs, z⟩⟩
/-- the deck was changed, and the lists of this deed are dropped -/
theorem Fr.deck {nm : Str} {d l : Addr} {H F H' : Hp} (r : Fr (some (nm, d, l)) H F H F) (k : ∀ b o, b ≠ d → b ≠ l → H b = some o → H' b = some o) (j : DeckAt nm d l H') : Fr (some (nm, d, l)) H F H' (tpH H' F) := by
  have nd : ∀ a o, F a = some o → a ≠ d ∧ a ≠ l := by
    intro a o h
    constructor
    · intro z
      have := (r.nm a (.inl z)).1
      rw [h] at this
      cases this
    · intro z
      have := (r.nm a (.inr z)).1
      rw [h] at this
      cases this
  have sub : ∀ a o, F a = some o → H' a = some o := fun a o h => k a o (nd a o h).1 (nd a o h).2 (r.sub a o h)
  have dk : ∀ a, (a = d ∨ a = l) → ∀ xs, H' a ≠ some (.tup xs) := fun a m xs z => by
    obtain ⟨cs, mi, dr, h1, h2, _⟩ := j
    rcases m with rfl | rfl
    · rw [h1] at z; cases z
    · rw [h2] at z; cases z
  refine ⟨fun a o m h => k a o (fun z => m (.inl z)) (fun z => m (.inr z)) h, j, fun a o h => ?_, fun a o h => ?_, fun a h => ?_, fun a m => ⟨by rw [tpH_not (dk a m)]; exact (r.nm a m).1, (r.nm a m).2⟩, fun a xs h => tpH_tup h⟩
  · rcases tpH_cases H' F a with ⟨xs, e1, e2⟩ | ⟨_, e2⟩
    · rw [e2] at h; cases h; exact e1
    · rw [e2] at h; exact sub a o h
  · rcases tpH_cases H' F a with ⟨xs, e1, e2⟩ | ⟨_, e2⟩
    · rw [e2, ← e1]; exact sub a o h
    · rw [e2]; exact h
  · rcases tpH_cases H' F a with ⟨xs, e1, e2⟩ | ⟨_, e2⟩
    · rw [e2]
      have m : ¬ (a = d ∨ a = l) := fun m => dk a m xs e1
      cases ho : H a with
      | none => exact absurd ho h
      | some o =>
        have := k a o (fun z => m (.inl z)) (fun z => m (.inr z)) ho
        rw [e1] at this
        cases this
        exact (r.tp a xs ho).symm
    · exact e2
/-- where a law's deck stands -/
theorem Fr.first {nm : Str} {d l : Addr} {H' : Hp} (j : DeckAt nm d l H') : Fr (some (nm, d, l)) H' (tpH H' fun _ => none) H' (tpH H' fun _ => none) := by
  refine ⟨fun _ _ _ e => e, j, fun a o h => ?_, Ex.refl _, fun _ _ => rfl, fun a m => ⟨?_, Gd.J.has (g := some (nm, d, l)) j m⟩, fun a xs h => tpH_tup h⟩
  · rcases tpH_cases H' (fun _ => none) a with ⟨xs, e1, e2⟩ | ⟨_, e2⟩
    · rw [e2] at h; cases h; exact e1
    · rw [e2] at h; cases h
  · refine tpH_not fun xs z => ?_
    obtain ⟨cs, mi, dr, h1, h2, _⟩ := j
    rcases m with rfl | rfl
    · rw [h1] at z; cases z
    · rw [h2] at z; cases z
/-- the ints of a list as data of the library -/
theorem pints_lay : ∀ cs : List Int, PyData.canLayAll0 (cs.map PyData.int) = true
  | [] => rfl
  | c :: cs => by
    show (true && PyData.canLayAll0 (cs.map PyData.int)) = true
    rw [pints_lay cs] <;> rfl
theorem pints_dep : ∀ cs : List Int, PyData.depthAll (cs.map PyData.int) = 0
  | [] => rfl
  | c :: cs => by
    show max 0 (PyData.depthAll (cs.map PyData.int)) = 0
    rw [pints_dep cs] <;> rfl
theorem pints_dp {K : PySem.W.Frag} {H : Hp} : ∀ cs : List Int, DpAll K H (cs.map V.int) (cs.map PyData.int)
  | [] => .nil
  | c :: cs => .cons (.int c) (pints_dp cs)
theorem pints_shaped (cs : List Int) : SeqAt.shaped (.list (cs.map PyData.int)) = true := by
  unfold SeqAt.shaped
  show (PyData.canLayAll0 (cs.map PyData.int) && decide (PyData.depthAll (cs.map PyData.int) + 1 ≤ 64)) = true
  rw [pints_lay, pints_dep] <;> rfl
/-- what the deck's maker promises -/
def spDeck (K : PySem.W.Frag) (nm : Str) : Sp := fun vs H Q _ => ∃ (a : Addr) (ns : List Int), vs = [.ref a] ∧ SqL K H a (ns.map V.int) ∧ ns.length ≤ 63 ∧ ∀ H' d l, Ex H H' → H d = none → H l = none → DeckAt nm d l H' → Q (.ref d) H'
/-- a draw: any integer below many -/
def fnDraw : Fn := fun ds q _ => ∃ n : Int, ds = [.int n] ∧ 1 ≤ n ∧ n < 1073741824 ∧ ∀ r : Int, 0 ≤ r → r < n → q (.int r)

/-! ### a, b = x, y -/
def fPar2 (i j : Nat) (fs : FA) : FS := fun ρ d => fs ρ (fun ds => match ds with | [a, b] => i < ρ.length ∧ j < ρ.length ∧ d.nx ((ρ.set i (some a)).set j (some b)) | _ => False) d.x
def fPar3 (i j l : Nat) (fs : FA) : FS := fun ρ d => fs ρ (fun ds => match ds with | [a, b, c] => i < ρ.length ∧ j < ρ.length ∧ l < ρ.length ∧ d.nx (((ρ.set i (some a)).set j (some b)).set l (some c)) | _ => False) d.x
section
variable {X : Cx} {g : Gd} {E : XK} {kd : Bool} {mb m : List Nat} {a b c e : Expr} {fs : FA} {fe : FE} {pos : Pos}
theorem ds_par2 {i j : Nat} {x y : Str} {px py pt : Pos} {kt k2 pt2} (hc : X.calm = true) (hN : X.N.Nodup) (hi : X.N[i]? = some x) (hj : X.N[j]? = some y) (hx : X.env.scope.names.lookup x = some .local) (hy : X.env.scope.names.lookup y = some .local) (ha : DA X g E m [a, b] fs)
    (hw : swappedStores [.Tuple [.Name x px, .Name y py] kt pt] (.Tuple [a, b] k2 pt2) X.env = pure (some [x, y]) := by rfl) (hij : i ≠ j := by decide)
    (hs : swapsWithSole [.Tuple [.Name x px, .Name y py] kt pt] (.Tuple [a, b] k2 pt2) pos.line X.env = pure false := by rfl) :
    DS X g E kd mb m (del (del m i) j) (.Assign [.Tuple [.Name x px, .Name y py] kt pt] (.Tuple [a, b] k2 pt2) pos) (fPar2 i j fs) := PSimp (ps_par hc hN hi hj hij hx hy ha hw hs) fun D σ H ⟨H0, F0, F, ρ, d, R, hf, h1, h2, h3, h4, h5⟩ =>
  ⟨H0, F0, F, ρ, _, d.x, R, hf, fun vs H1 F1 ds r1 i1 hd => by
    split at hd
    · cases i1 with
      | cons p q =>
        cases q with
        | cons p' q' =>
          cases q'
          exact ⟨_, _, rfl, h1 _ H1 F1 _ (((R.step r1).set p hd.1).set p' (by rw [List.length_set]; exact hd.2.1)) r1.f0 hd.2.2⟩
    · exact hd.elim, h5.step R.fr⟩
theorem ds_par3 {i j l : Nat} {x y z : Str} {px py pz pt : Pos} {kt k2 pt2} (hc : X.calm = true) (hN : X.N.Nodup) (hi : X.N[i]? = some x) (hj : X.N[j]? = some y) (hl : X.N[l]? = some z) (hx : X.env.scope.names.lookup x = some .local) (hy : X.env.scope.names.lookup y = some .local) (hz : X.env.scope.names.lookup z = some .local) (ha : DA X g E m [a, b, c] fs)
    (hw : swappedStores [.Tuple [.Name x px, .Name y py, .Name z pz] kt pt] (.Tuple [a, b, c] k2 pt2) X.env = pure (some [x, y, z]) := by rfl) (hij : i ≠ j := by decide) (hil : i ≠ l := by decide) (hjl : j ≠ l := by decide)
    (hs : swapsWithSole [.Tuple [.Name x px, .Name y py, .Name z pz] kt pt] (.Tuple [a, b, c] k2 pt2) pos.line X.env = pure false := by rfl) :
    DS X g E kd mb m (del (del (del m i) j) l) (.Assign [.Tuple [.Name x px, .Name y py, .Name z pz] kt pt] (.Tuple [a, b, c] k2 pt2) pos) (fPar3 i j l fs) := PSimp (ps_par3 hc hN hi hj hl hij hil hjl hx hy hz ha hw hs) fun D σ H ⟨H0, F0, F, ρ, d, R, hf, h1, h2, h3, h4, h5⟩ =>
  ⟨H0, F0, F, ρ, _, d.x, R, hf, fun vs H1 F1 ds r1 i1 hd => by
    split at hd
    · cases i1 with
      | cons p q =>
        cases q with
        | cons p' q' =>
          cases q' with
          | cons p'' q'' =>
            cases q''
            exact ⟨_, _, _, rfl, h1 _ H1 F1 _ ((((R.step r1).set p hd.1).set p' (by rw [List.length_set]; exact hd.2.1)).set p'' (by rw [List.length_set, List.length_set]; exact hd.2.2.1)) r1.f0 hd.2.2.2⟩
    · exact hd.elim, h5.step R.fr⟩
/-- xs[::-1] of a list: a new one -/
def sRev : D → (D → Prop) → XD → Prop := fun a q _ => match a with | .lst xs => q (.lst xs.reverse) | _ => False
theorem df_rev {k : Nat} {p1 p2 p3 : Pos} (h : DB X g E m e fe) : DF X g E m (.Subscript e (.Slice none none (some (.UnaryOp .USub (.Constant (.int 1) k p1) p2)) p3) pos) (f1 sRev fe) :=
  df_1 (r := fun v H Q => ∃ a xs, v = .ref a ∧ SqL X.K H a xs ∧ ∀ p, H p = none → Q (.ref p) (upd H p (.lst xs.reverse))) (pe_revL h) fun g E H F v a q x Q r ia hs hq hx => by
  unfold sRev at hs
  split at hs
  · obtain ⟨p, ys, rfl, h1, h2⟩ := ia.lst' r.sub
    exact ⟨_, _, rfl, h1, fun l hl => hq l _ F _ _ (r.newO hl) hl upd_same (r.freeF hl) h2.reverse hs⟩
  · exact hs.elim
end
end DL

/-! DL7: short names; a def as it is called; readings of the deck's two defs. -/
namespace DL
open PySem PySem.Spec PyProof.Rows L2
/-! ### short names -/
abbrev Sem2T := D → D → (D → Prop) → XD → Prop
abbrev Sem1T := D → (D → Prop) → XD → Prop
abbrev sSub : Sem2T := sI0 fun i j => .int (i - j)
abbrev sMul : Sem2T := sI IntMulOk fun i j => .int (i * j)
abbrev sDiv : Sem2T := sI DivOk fun i j => .int (i.fdiv j)
abbrev sMod : Sem2T := sI (fun _ j => j ≠ 0) fun i j => .int (i.fmod j)
abbrev sPow : Sem2T := sI CPow fun i j => .int (i ^ j.toNat)
abbrev sMax2 : Sem2T := sI0 fun i j => .int (if j > i then j else i)
abbrev sMin2 : Sem2T := sI0 fun i j => .int (if j < i then j else i)
abbrev sGcd : Sem2T := sI0 fun i j => .int (gcdI i j)
abbrev sReprT : Sem1T := fun a q x => (match a with | .tup _ => True | .lst _ => True | _ => False) ∧ sRepr a q x
abbrev tyNames : List String := ["NoneType", "bool", "int", "str", "tuple", "list", "dict"]
theorem isi_int : ∀ t ∈ tyNames, kitB t "int" = some (isTy "int" t) := by decide +kernel
theorem isi_bool : ∀ t ∈ tyNames, kitB t "bool" = some (isTy "bool" t) := by decide +kernel
theorem isi_tuple : ∀ t ∈ tyNames, kitB t "tuple" = some (isTy "tuple" t) := by decide +kernel
theorem isi_list : ∀ t ∈ tyNames, kitB t "list" = some (isTy "list" t) := by decide +kernel
theorem isi_str : ∀ t ∈ tyNames, kitB t "str" = some (isTy "str" t) := by decide +kernel
theorem hu65 {A : Around} {k : Nat} (hr : Room k A) : A.units + 65 < cLine := by have := hr.un; omega
/-- a module's constant, told by the head -/
def Con (K : PySem.W.Frag) (mg : Str → Option Value) (x : Str) (d : D) : Prop := ∃ v u, mg x = some u ∧ RelV v u ∧ ∀ F, Is K F v d
theorem de_con {X : Cx} {g : Gd} {E : XK} {m : List Nat} {x : Str} {d : D} {pos : Pos} (hg : Gl X x) (c : Con X.K X.mg x d) (hd : (x == ("__debug__" : Str)) = false := by decide) : DE X g E m (.Name x pos) (fK d) := by
  obtain ⟨v, u, h1, h2, h3⟩ := c
  exact de_glob hg h1 h2 h3 hd
/-! ### a def as it is called -/
/-- bs: the defaults that fill up a positional call; kbs: the keyword calls -/
structure Cal (P : Program) (w : World) (K : PySem.W.Frag) (mg : Str → Option Value) (base : Heap) (k : Nat) (x : Str) (ps : List Str) (sp : Sp) (bs : List (List D)) (kbs : List (Nat × List Str × List Nat)) : Prop where
  ex : ∃ (f : Addr) (fd : FuncData), FnG P w K mg base CX0 k f fd ps sp ∧ mg x = some (.ref f) ∧ PySem.W.keepIn K (.ref f) = true ∧
    (∀ dd ∈ bs, ∃ (dvs : List V) (dss : List Value), Binds K fd ps dss ∧ Vals dvs dss ∧ ∀ F, IsAll K F dvs dd) ∧ ∀ t ∈ kbs, KB K fd ps t.1 t.2.1 t.2.2
section
variable {X : Cx} {g : Gd} {E : XK} {m : List Nat} {j k : Nat} {ps : List Str} {fn : Fn} {dd : List D} {x : Str} {p pos : Pos} {e : Expr} {es : List Expr} {fs fk : FA} {kws : List Keyword} {bs : List (List D)} {kbs : List (Nat × List Str × List Nat)}
theorem cal_N (C : Cal X.prog X.w X.K X.mg X.base j x ps (spN X.K false fn) bs kbs) (hr : Room k X.A) (hG : X.A.guards = some []) (hg : Gl X x) (i : Nat) (ha : DA X g E m (e :: es) fs) (hb : bs[i]? = some dd := by rfl) (hj : j ≤ k := by decide)
    (hdb : (x == ("__debug__" : Str)) = false := by decide) (he : starEach (e :: es) X.env = (false, eval e X.env) :: starEach es X.env := by rfl) (hpl : (backTo pos (starEach es X.env)).any (·.1) = false := by rfl) :
    DE X g E m (.Call (.Name x p) (e :: es) [] pos) (fCall fn dd fs) := by
  obtain ⟨f, fd, h1, h2, h3, h4, _⟩ := C.ex
  obtain ⟨dvs, dss, b1, b2, b3⟩ := h4 dd (List.mem_of_getElem? hb)
  exact de_call (hr.mono hj) hG hg h2 h3 passN h1 b1 b2 b3 ha hdb he hpl
theorem cal_F (C : Cal X.prog X.w X.K X.mg X.base j x ps (spN X.K true fn) bs kbs) (hr : Room k X.A) (hG : X.A.guards = some []) (hg : Gl X x) (i : Nat) (ha : DA X g E m (e :: es) fs) (hb : bs[i]? = some dd := by rfl) (hj : j ≤ k := by decide)
    (hdb : (x == ("__debug__" : Str)) = false := by decide) (he : starEach (e :: es) X.env = (false, eval e X.env) :: starEach es X.env := by rfl) (hpl : (backTo pos (starEach es X.env)).any (·.1) = false := by rfl) :
    DF X g E m (.Call (.Name x p) (e :: es) [] pos) (fCall fn dd fs) := by
  obtain ⟨f, fd, h1, h2, h3, h4, _⟩ := C.ex
  obtain ⟨dvs, dss, b1, b2, b3⟩ := h4 dd (List.mem_of_getElem? hb)
  exact df_call (hr.mono hj) hG hg h2 h3 passN h1 b1 b2 b3 ha hdb he hpl
theorem cal_G {nm : Str} {d l : Addr} (C : Cal X.prog X.w X.K X.mg X.base j x ps (spG X.K nm false fn) [[]] kbs) (hr : Room k X.A) (hG : X.A.guards = some []) (hg : Gl X x) (ha : DA X (some (nm, d, l)) E m (e :: es) fs) (hj : j ≤ k := by decide)
    (hdb : (x == ("__debug__" : Str)) = false := by decide) (he : starEach (e :: es) X.env = (false, eval e X.env) :: starEach es X.env := by rfl) (hpl : (backTo pos (starEach es X.env)).any (·.1) = false := by rfl) :
    DE X (some (nm, d, l)) E m (.Call (.Name x p) (e :: es) [] pos) (fCallG fn d fs) := by
  obtain ⟨f, fd, h1, h2, h3, h4, _⟩ := C.ex
  obtain ⟨dvs, dss, b1, b2, b3⟩ := h4 [] (List.mem_cons_self ..)
  have e1 := b3 fun _ => none
  cases dvs with
  | cons v vs => cases e1
  | nil =>
    cases b2
    exact de_callG (hr.mono hj) hG hg h2 h3 passN h1 b1 ha hdb he hpl
theorem cal_K (C : Cal X.prog X.w X.K X.mg X.base j x ps (spN X.K false fn) bs kbs) (hr : Room k X.A) (hG : X.A.guards = some []) (hg : Gl X x) (i n : Nat) (ks : List Str) (ix : List Nat) (ha : DA X g E m (e :: es) fs) (hkw : DK X g E m kws fk) (hb : kbs[i]? = some (n, ks, ix) := by rfl) (hj : j ≤ k := by decide)
    (hall : (backToKw pos (keywordEach kws X.env)).all (·.1.isSome) = true := by rfl) (hks : (backToKw pos (keywordEach kws X.env)).filterMap (·.1) = ks := by rfl)
    (hdb : (x == ("__debug__" : Str)) = false := by decide) (he : starEach (e :: es) X.env = (false, eval e X.env) :: starEach es X.env := by rfl)
    (hpl : ((backTo pos (starEach (e :: es) X.env)).any (·.1) || (backToKw pos (keywordEach kws X.env)).any (·.1.isNone)) = false := by rfl) :
    DE X g E m (.Call (.Name x p) (e :: es) kws pos) (fCallK fn n ks.length ix fs fk) := by
  obtain ⟨f, fd, h1, h2, h3, _, h5⟩ := C.ex
  exact de_callK (hr.mono hj) hG hg h2 h3 passN h1 (h5 _ (List.mem_of_getElem? hb)) ha hkw hall hks hdb he hpl
theorem cal_K0 (C : Cal X.prog X.w X.K X.mg X.base j x ps (spN X.K false fn) bs kbs) (hr : Room k X.A) (hG : X.A.guards = some []) (hg : Gl X x) (i : Nat) (ks : List Str) (ix : List Nat) (hkw : DK X g E m kws fk) (hb : kbs[i]? = some (0, ks, ix) := by rfl) (hj : j ≤ k := by decide)
    (hall : (backToKw pos (keywordEach kws X.env)).all (·.1.isSome) = true := by rfl) (hks : (backToKw pos (keywordEach kws X.env)).filterMap (·.1) = ks := by rfl)
    (hdb : (x == ("__debug__" : Str)) = false := by decide)
    (hpl : ((backTo pos (starEach [] X.env)).any (·.1) || (backToKw pos (keywordEach kws X.env)).any (·.1.isNone)) = false := by rfl) :
    DE X g E m (.Call (.Name x p) [] kws pos) (fCallK fn 0 ks.length ix fNil fk) := by
  obtain ⟨f, fd, h1, h2, h3, _, h5⟩ := C.ex
  exact de_callK0 (hr.mono hj) hG hg h2 h3 passN h1 (h5 _ (List.mem_of_getElem? hb)) hkw hall hks hdb hpl
end
section
variable {P : Program} {w : World} {K : PySem.W.Frag} {mg : Str → Option Value} {base : Heap} {x qual : Str} {params : Arguments} {body : List Stmt} {scope : Scope} {dvs : List V} {kws : List (Str × V)} {f : Addr} {fd : FuncData} {ps ks : List Str} {n : Nat} {ix : List Nat} {dd : List D}
/-- a keyword call binds (no defaults) -/
theorem kb_of (F : FunD K x qual params body scope [] kws f fd)
    (h : ∀ (kV doc pm : Value) (an : Option Addr) (cdv ct : Value) (us ws : List Value), us.length = n → ws.length = ks.length → bindArgs (PySem.W.fnOf x qual params body scope .none kV doc pm an cdv ct) ⟨us, ks.zip ws⟩ = pure (ps.zip (pick ix (us ++ ws)))) : KB K fd ps n ks ix := by
  obtain ⟨oc, od, dV, kV, doc, pm, an, cdv, ct, osl, rfl, lk, hcd, hD, hK⟩ := F.ex
  rcases hD with ⟨_, rfl⟩ | ⟨e, _⟩
  · exact fun s us ws _ h1 h2 => .of_eq (h kV doc pm an cdv ct us ws h1 h2)
  · exact absurd rfl e
theorem bs_0 (b : Binds K fd ps []) : ∃ (dvs : List V) (dss : List Value), Binds K fd ps dss ∧ Vals dvs dss ∧ ∀ F, IsAll K F dvs [] := ⟨[], [], b, .nil, fun _ => .nil⟩
theorem bs_1 (b : ∃ ds, Vals dvs ds ∧ Binds K fd ps ds) (h : ∀ F, IsAll K F dvs dd) : ∃ (dvs : List V) (dss : List Value), Binds K fd ps dss ∧ Vals dvs dss ∧ ∀ F, IsAll K F dvs dd := by
  obtain ⟨ds, h1, h2⟩ := b
  exact ⟨dvs, ds, h2, h1, h⟩
theorem all_0 {α : Type} {p : α → Prop} : ∀ a ∈ ([] : List α), p a := fun _ h => by cases h
theorem all_1 {α : Type} {p : α → Prop} {a : α} {l : List α} (h : p a) (r : ∀ b ∈ l, p b) : ∀ b ∈ a :: l, p b := fun b hb => by
  rcases List.mem_cons.mp hb with e | hb
  · rw [e]; exact h
  · exact r b hb
end
/-! ### a meaning behind a lock: nothing unfolds it, only its equation -/
theorem lock_ex (f : Fn) : ∃ g : Fn, g = f := ⟨f, rfl⟩
noncomputable def lock (f : Fn) : Fn := Classical.choose (lock_ex f)
theorem lock_eq (f : Fn) : lock f = f := Classical.choose_spec (lock_ex f)
theorem lock_at (f : Fn) (ds : List D) (q : D → Prop) (x : XD) : lock f ds q x = f ds q x := by rw [lock_eq]
/-! ### the law -/
abbrev lawStart (n : Nat) (a d : Addr) : Ro := some (.ref a) :: some (.ref d) :: List.replicate (n - 2) none
abbrev lawEnds : DEnds := ⟨fun _ => False, fun _ => False, fun _ => False, fun r => r = .bl true, fun _ _ => False⟩
def spLaw (K : PySem.W.Frag) : Sp := fun vs H Q _ => ∃ (a : Addr) (ns : List Int), vs = [.ref a] ∧ SqL K H a (ns.map V.int) ∧ ns.length ≤ 63 ∧ ∀ H', Q (.bl true) H'
section
variable {P : Program} {w : World} {K : PySem.W.Frag} {mg : Str → Option Value} {base : Heap} {x qual nm y : Str} {params : Arguments} {body0 body : List Stmt} {scope : Scope} {f : Addr} {fd : FuncData} {N : List Str} {k : Nat} {st0 : Stmt}
/-- the law: its first statement makes the deck (slot 1), the rest stands over data -/
theorem okLaw (F : FunD K x qual params body0 scope [] [] f fd) (S : FnScope N ["script"] scope) (hb : body0 = st0 :: body) (hN : 2 ≤ N.length)
    (h0 : ∀ (cdv : Value) (A : Around) (outer : List Env) (s : Shared) (H : Hp) (E : XK), Room k (A.deeper (envOfC qual scope s.heap.objs.size f cdv)) → (A.deeper (envOfC qual scope s.heap.objs.size f cdv)).guards = some [] →
      PS (cxOf CX0 P w K mg base N qual scope f cdv A outer s H E).nox st0 (tAsg (tCall (spDeck K nm) [] E (tCons (tVar 0) tNil)) (gName 1)))
    (hbody : ∀ (cdv : Value) (A : Around) (outer : List Env) (s : Shared) (H : Hp) (E : XK) (a d l : Addr), Room k (A.deeper (envOfC qual scope s.heap.objs.size f cdv)) → (A.deeper (envOfC qual scope s.heap.objs.size f cdv)).guards = some [] →
      ∃ m' fb, DSs (cxOf CX0 P w K mg base N qual scope f cdv A outer s H E).nox (some (nm, d, l)) E false [] [] m' body fb ∧ fb (lawStart N.length a d) lawEnds) :
    FnG P w K mg base CX0 (k + 1) f fd ["script"] (spLaw K) := by
  subst hb
  refine okRaw F S (fun vs H Q E ⟨a, ns, h, _⟩ => by rw [h]; rfl) fun cdv A outer s H vs Q E hr hG ⟨a, ns, hv, hS, hl, hq⟩ => ?_
  subst hv
  have hb2 := fun a d l => hbody cdv A outer s H E a d l hr hG
  let t2 : TS := fun D σ H1 => ∃ (d l : Addr) (m' : List Nat) (fb : FS), DSs (cxOf CX0 P w K mg base N qual scope f cdv A outer s H E).nox (some (nm, d, l)) E false [] [] m' body fb ∧ tS K (some (nm, d, l)) E false [] [] m' fb D σ H1
  refine ⟨tSeq (tAsg (tCall (spDeck K nm) [] E (tCons (tVar 0) tNil)) (gName 1)) t2, PSs.nox (pss_cons (h0 cdv A outer s H E hr hG) ⟨fun pins s' σ H' D I q => ?_⟩), ?_⟩
  · obtain ⟨d, l, m', fb, h1, h2⟩ := q
    exact h1.run pins s' σ H' D I h2
  · have hs : L2.start N [V.ref a] = some (.ref a) :: List.replicate (N.length - 1) none := rfl
    refine ⟨.ref a, by rw [hs]; rfl, a, ns, rfl, hS, hl, fun H' d l ex nd nl j => ?_⟩
    obtain ⟨m', fb, h1, h2⟩ := hb2 a d l
    refine ⟨d, l, m', fb, h1, H', _, _, lawStart N.length a d, lawEnds, ⟨Fr.first j, ?_, ?_, fun _ => 0, fun i hi => (by cases hi), fun i hi => (by cases hi)⟩, h2, fun _ _ _ _ _ _ z => z.elim, fun _ _ _ _ _ _ z => z.elim, fun _ _ _ _ _ _ z => z.elim, ?_, XE.none⟩
    · rw [hs, List.length_set, List.length_cons, List.length_cons, List.length_cons, List.length_replicate, List.length_replicate]
      omega
    · intro i b hi _
      match i, hi with
      | 0, hi => cases hi; exact ⟨.ref a, by rw [hs]; rfl, .ref a⟩
      | 1, hi =>
        cases hi
        exact ⟨.ref d, List.getElem?_set_self (by rw [hs, List.length_cons, List.length_replicate]; omega), .ref d⟩
      | i + 2, hi =>
        have : (List.replicate (N.length - 2) (none : Option D))[i]? = some (some b) := hi
        rw [List.getElem?_replicate] at this
        split at this <;> cases this
    · intro v H2 F2 r _ hi hr
      have hr : r = .bl true := hr
      subst hr
      have hi : Is K F2 v (.bl true) := hi
      cases hi
      exact hq H2
end
/-! ### the deck's numbers -/
theorem fmod_small (i : Int) {j : Int} (h : 0 < j) (h2 : j < 2 ^ 40) : -(2 ^ 40) < i.fmod j ∧ i.fmod j < 2 ^ 40 := by
  have h3 := Int.fmod_lt_of_pos i h
  have h4 := Int.fmod_nonneg_of_pos i h
  exact ⟨by omega, by omega⟩
theorem cut_ints (ns : List Int) (h : ns.length ≤ 63) : ∃ cs : List Int, cutV (ns.map V.int) none (some 63) = cs.map V.int ∧ cs.length ≤ 63 :=
  ⟨_, by unfold cutV; rw [← List.map_drop, ← List.map_take], by rw [List.length_take, List.length_drop]; omega⟩
theorem dgetK {H : Hp} {d : Addr} {kvs : List (Key × V)} {k : Key} {v : V} (e : H d = some (.dK kvs)) (h : valV kvs k = some v) : DGet H d (kV k) (some v) := h ▸ DGet.k e
theorem dputK {H : Hp} {d : Addr} {kvs kvs' : List (Key × V)} {k : Key} {v : V} (e : H d = some (.dK kvs)) (hl : kvs.length < sizeLine) (h : putK kvs k v = kvs') : DPut H d (kV k) v (upd H d (.dK kvs')) := h ▸ DPut.k e hl
theorem snoc_cases (l : List Int) : l = [] ∨ ∃ cs c, l = cs ++ [c] := by
  rcases List.eq_nil_or_concat l with h | ⟨cs, c, h⟩
  · exact .inl h
  · exact .inr ⟨cs, c, by rw [h, List.concat_eq_append]⟩
abbrev rModN : R2 := rI (fun _ j => j ≠ 0) fun i j => .int (i.fmod j)
abbrev rMulO : R2 := rI IntMulOk fun i j => .int (i * j)
abbrev rAddI : R2 := rI0 fun i j => .int (i + j)
abbrev rDivO : R2 := rI DivOk fun i j => .int (i.fdiv j)
abbrev rInt1 : List V → Hp → VK → Prop := fun xs H Q => (∃ i, xs = [.int i] ∧ Q (.int i) H) ∨ ∃ k, xs = [.bl k] ∧ Q (.int (if k then 1 else 0)) H
end DL

/-! DL8: a law's head by facts. -/
namespace DL
open PySem PySem.Spec PyProof.Rows L2
/-! ### what the head tells -/
abbrev AlC : Type := He.AlD × Bool
def obsC (n : Nat) (fa : List He.Fa) (fn : List He.DefD) (ex : PySem.W.Frag → Bool) (g : Addr → Option Obj) : AlC := (He.obsD fa fn (He.frG g (He.asD g n)), ex (He.frG g (He.asD g n)))
def valC (fn : List He.DefD) : AlC := (He.valD fn, true)
def hookC (n : Nat) (fa : List He.Fa) (fn : List He.DefD) (ex : PySem.W.Frag → Bool) : PySem.W.Hook where
  α := AlC
  obs := fun s => obsC n fa fn ex s.heap.get?
  val := fun _ => valC fn
  says := fun _ h => ∃ K : PySem.W.Frag, K.In h ∧ He.SaysD fa fn K ∧ ex K = true
  of := fun _ _ e => ⟨_, He.frG_in, congrArg (fun z : AlC => z.1) e, congrArg (fun z : AlC => z.2) e⟩
  keeps := fun _ _ _ ⟨K, hK, c⟩ k => ⟨K, PySem.W.Frag.In.keeps hK k, c⟩
theorem obsC_eq {n : Nat} {fa : List He.Fa} {fn : List He.DefD} {ex : PySem.W.Frag → Bool} {g : Addr → Option Obj} {s : Shared} (h : ∀ a, g a = s.heap.get? a) : obsC n fa fn ex g = (hookC n fa fn ex).obs s := by
  obtain rfl : g = s.heap.get? := funext h
  rfl
/-- the module's name x is this plain constant -/
def conB (K : PySem.W.Frag) (x : Str) (d : He.Dv) : Bool := match PySem.W.nsIn K mainGlobals x with
  | some (some u) => He.relB (d.v K) u
  | _ => false
def bltB (K : PySem.W.Frag) (x : Str) (n : String) : Bool := match PySem.W.nsIn K mainGlobals x with
  | some (some (.builtin m)) => decide (m = n)
  | _ => false
section
variable {K : PySem.W.Frag} {h : Heap} {mg : Str → Option Value} {x : Str}
theorem conB_ok (X : K.In h) (G : h.Ns mainGlobals mg) {d : He.Dv} {dd : D} (c : conB K x d = true) (hd : ∀ F, Is K F (d.v K) dd) : Con K mg x dd := by
  unfold conB at c
  split at c
  · rename_i u e
    exact ⟨_, u, PySem.W.mg_of X G e, He.relB_ok c, hd⟩
  · cases c
theorem bltB_ok (X : K.In h) (G : h.Ns mainGlobals mg) {n : String} (c : bltB K x n = true) : mg x = some (.builtin n) := by
  unfold bltB at c
  split at c
  · rename_i m e
    rw [← of_decide_eq_true c]
    exact PySem.W.mg_of X G e
  · cases c
theorem bltM {a b : Bool} (h : (a && b) = true) : a = true ∧ b = true := Bool.and_eq_true_iff.mp h
end
theorem walk_facts {l : PySem.W.OpenLaw} {n k : Nat} {q : Program} {loose : List Str} {XP : (Str → Option Value) → Heap → Prop} {YP : World → Heap → Prop} {d : DefRec} {x : Str}
    (hn : l.most = some n) (hn2 : n ≤ 63) (hdf : d.params.defaults = []) (hr : Room k callerA)
    (F : ∀ (w : World) (mg : Str → Option Value) (fa : Addr) (h : Heap), YP w h → h.Ns mainGlobals mg → mg d.name = some (.ref fa) →
      ∃ (K : PySem.W.Frag) (fd : FuncData), K.In h ∧ (∀ (s : Shared) (u : Value), BindsTo s fd ⟨[u], []⟩ [(x, u)]) ∧
        ∀ base : Heap, K.In base → base.Ns mainGlobals mg → FnG l.prog w K mg base CX0 k fa fd [x] (spLaw K)) :
    PySem.W.WalkO q loose XP YP l.row.toRowW d [] (fun f vs => PySem.call f vs) := by
  refine Att.attach_callB hn hdf fun w s₀ s mg mb fa o pm cd doc a vs ns G Y _ _ _ hmg hobj hints hlen hbits hg => ?_
  obtain ⟨K, fd, kin, hb, hF⟩ := F w mg fa _ Y G.T.g hmg
  exact run_law kin G.T.g G.T.b G.T.builtins G.T.nolimit hg hobj hints (Nat.le_trans hlen (Nat.le_trans hn2 (by decide))) hr hF hb fun H hS => ⟨a, ns, rfl, hS, Nat.le_trans hlen hn2, fun _ => rfl⟩
end DL

/-! DL9: for the plain laws: loops by an invariant, == of data, numbers. -/
namespace DL
open PySem PySem.Spec PyProof.Rows L2
theorem forL_inv {t : FG} {b : FS} {d : DEnds} (I : List D → Ro → Prop) (h0 : ∀ ρ, I [] ρ → d.nx ρ)
    (h1 : ∀ a r ρ, I (a :: r) ρ → ∀ nx : Ro → Prop, (∀ ρ', I r ρ' → nx ρ') → t a ρ fun ρ1 => b ρ1 { d with nx := nx, ct := nx, bk := d.nx }) : ∀ (l : List D) (ρ : Ro), I l ρ → forL t b d l ρ
  | [], ρ, h => h0 ρ h
  | a :: r, ρ, h => h1 a r ρ h _ fun ρ' h' => forL_inv I h0 h1 r ρ' h'
theorem rangeD_len (lo : Int) (n : Nat) : (rangeD lo n).length = n := by simp [rangeD]
theorem isTy_int_int : isTy "int" "int" = true := by decide +kernel
theorem isTy_bool_int : isTy "bool" "int" = false := by decide +kernel
theorem isTy_bool_bool : isTy "bool" "bool" = true := by decide +kernel
theorem isTy_int_bool : isTy "int" "bool" = true := by decide +kernel
theorem isTy_tuple_tuple : isTy "tuple" "tuple" = true := by decide +kernel
theorem isTy_tuple_list : isTy "tuple" "list" = false := by decide +kernel
theorem isTy_tuple_int : isTy "tuple" "int" = false := by decide +kernel
theorem isTy_list_list : isTy "list" "list" = true := by decide +kernel
theorem isTy_int_tuple : isTy "int" "tuple" = false := by decide +kernel
theorem isTy_int_str : isTy "int" "str" = false := by decide +kernel
theorem isTy_str_str : isTy "str" "str" = true := by decide +kernel
abbrev pr (a b : Int) : D := .tup [.int a, .int b]
theorem eqD_int (a b : Int) : eqD (.int a) (.int b) = decide (a = b) := rfl
theorem eqD_str (a b : Str) : eqD (.str a) (.str b) = decide (a = b) := by
  show (a == b) = decide (a = b)
  rw [Bool.beq_eq_decide_eq]
theorem eqD_tup (xs ys : List D) : eqD (.tup xs) (.tup ys) = PyData.eqvAll (D.pys xs) (D.pys ys) := rfl
theorem eqD_lst (xs ys : List D) : eqD (.lst xs) (.lst ys) = PyData.eqvAll (D.pys xs) (D.pys ys) := rfl
theorem eqvs_nil : PyData.eqvAll (D.pys []) (D.pys []) = true := rfl
theorem eqvs_cons (x y : D) (xs ys : List D) : PyData.eqvAll (D.pys (x :: xs)) (D.pys (y :: ys)) = (eqD x y && PyData.eqvAll (D.pys xs) (D.pys ys)) := rfl
theorem eqD_pr (a b c d : Int) : eqD (pr a b) (pr c d) = decide (a = c ∧ b = d) := by
  rw [eqD_tup, eqvs_cons, eqvs_cons, eqvs_nil, eqD_int, eqD_int, Bool.and_true]
  by_cases h : a = c <;> by_cases h2 : b = d <;> simp [h, h2]
mutual
theorem eqD_self : ∀ d : D, d.ok = true → eqD d d = true
  | .non, _ => rfl
  | .bl b, _ => by show (b == b) = true; exact beq_self_eq_true b
  | .int i, _ => by rw [eqD_int]; exact decide_eq_true rfl
  | .str s, _ => by rw [eqD_str]; exact decide_eq_true rfl
  | .tup xs, h => by rw [eqD_tup]; exact eqvs_self xs h
  | .lst xs, h => by rw [eqD_lst]; exact eqvs_self xs h
  | .ref _, _ => rfl
  | .dic _ _, h => by cases h
  | .dtu _ _, h => by cases h
  | .err _ _, h => by cases h
  | .diz _ _, h => by cases h
theorem eqvs_self : ∀ xs : List D, D.oks xs = true → PyData.eqvAll (D.pys xs) (D.pys xs) = true
  | [], _ => rfl
  | x :: xs, h => by
    have h' : (D.ok x && D.oks xs) = true := h
    rw [Bool.and_eq_true] at h'
    rw [eqvs_cons, eqD_self x h'.1, eqvs_self xs h'.2] <;> rfl
end
theorem mulOk_l {a b : Int} (h1 : -18446744073709551616 < a) (h2 : a < 18446744073709551616) : IntMulOk a b := IntMulOk.of_left (intBits_le_64 (by omega) (by omega))
theorem mulOk_r {a b : Int} (h1 : -18446744073709551616 < b) (h2 : b < 18446744073709551616) : IntMulOk a b := IntMulOk.of_right (intBits_le_64 (by omega) (by omega))
theorem divOk_s {a b : Int} (h0 : b ≠ 0) (h1 : -1073741824 < b) (h2 : b < 1073741824) : DivOk a b := ⟨h0, PyProof.noPylong_small (by omega)⟩
/-! ### the readings of operators at data -/
section
variable (q : D → Prop) (x : XD)
theorem ev_add_int (i j : Int) : sAdd (.int i) (.int j) q x = q (.int (i + j)) := rfl
theorem ev_add_lst (xs ys : List D) : sAdd (.lst xs) (.lst ys) q x = (xs.length + ys.length ≤ LN ∧ q (.lst (xs ++ ys))) := rfl
theorem ev_add_tup (xs ys : List D) : sAdd (.tup xs) (.tup ys) q x = (xs.length + ys.length ≤ LN ∧ q (.tup (xs ++ ys))) := rfl
theorem ev_add_str (a b : Str) : sAdd (.str a) (.str b) q x = (a.length + b.length ≤ LN ∧ q (.str (a ++ b))) := rfl
theorem ev_cat (xs ys : List D) : sCat (.lst xs) (.lst ys) q x = (xs.length + ys.length ≤ LN ∧ q (.lst (xs ++ ys))) := rfl
theorem ev_I (C : Int → Int → Prop) (h : Int → Int → D) (i j : Int) : sI C h (.int i) (.int j) q x = (C i j ∧ q (h i j)) := rfl
theorem ev_I0 (h : Int → Int → D) (i j : Int) : sI0 h (.int i) (.int j) q x = q (h i j) := rfl
theorem ev_cmp (h : Int → Int → Bool) (i j : Int) : sCmp h (.int i) (.int j) q x = q (.bl (h i j)) := rfl
theorem ev_sub (i j : Int) : sSub (.int i) (.int j) q x = q (.int (i - j)) := rfl
theorem ev_mul (i j : Int) : sMul (.int i) (.int j) q x = (IntMulOk i j ∧ q (.int (i * j))) := rfl
theorem ev_div (i j : Int) : sDiv (.int i) (.int j) q x = (DivOk i j ∧ q (.int (i.fdiv j))) := rfl
theorem ev_mod (i j : Int) : sMod (.int i) (.int j) q x = (j ≠ 0 ∧ q (.int (i.fmod j))) := rfl
theorem ev_pow (i j : Int) : sPow (.int i) (.int j) q x = (CPow i j ∧ q (.int (i ^ j.toNat))) := rfl
theorem ev_max2 (i j : Int) : sMax2 (.int i) (.int j) q x = q (.int (if j > i then j else i)) := rfl
theorem ev_min2 (i j : Int) : sMin2 (.int i) (.int j) q x = q (.int (if j < i then j else i)) := rfl
theorem ev_gcd (i j : Int) : sGcd (.int i) (.int j) q x = q (.int (gcdI i j)) := rfl
theorem ev_neg (i : Int) : sNeg (.int i) q x = q (.int (-i)) := rfl
theorem ev_abs (i : Int) : sAbs (.int i) q x = q (.int (absI i)) := rfl
theorem ev_int (i : Int) : sInt (.int i) q x = q (.int i) := rfl
theorem ev_intb (b : Bool) : sInt (.bl b) q x = q (.int (if b then 1 else 0)) := rfl
theorem ev_len_tup (xs : List D) : sLen (.tup xs) q x = q (.int xs.length) := rfl
theorem ev_len_lst (xs : List D) : sLen (.lst xs) q x = q (.int xs.length) := rfl
theorem ev_tuple_tup (xs : List D) : sTuple (.tup xs) q x = q (.tup xs) := rfl
theorem ev_tuple_lst (xs : List D) : sTuple (.lst xs) q x = q (.tup xs) := rfl
theorem ev_list_tup (xs : List D) : sList (.tup xs) q x = q (.lst xs) := rfl
theorem ev_list_lst (xs : List D) : sList (.lst xs) q x = q (.lst xs) := rfl
theorem ev_rev (xs : List D) : sRev (.lst xs) q x = q (.lst xs.reverse) := rfl
theorem ev_rep (xs : List D) (k : Int) : sRep (.lst xs) (.int k) q x = (xs.length * k.toNat ≤ LN ∧ -1000000 ≤ k ∧ k ≤ 1000000 ∧ q (.lst (List.replicate k.toNat xs).flatten)) := rfl
theorem ev_ix_tup {xs : List D} {i : Int} {d : D} (h : atI xs i = some d) : sIx (.tup xs) (.int i) q x = q d := by unfold sIx; simp only [h]
theorem ev_ix_lst {xs : List D} {i : Int} {d : D} (h : atI xs i = some d) : sIx (.lst xs) (.int i) q x = q d := by unfold sIx; simp only [h]
theorem atI_nat {xs : List D} {n : Nat} {d : D} (h : xs[n]? = some d) : atI xs (n : Int) = some d := by
  have hn := (List.getElem?_eq_some_iff.mp h).1
  unfold atI ixN
  rw [if_pos (by omega), if_pos (by omega)]
  exact h
theorem ev_ix0t (a : D) (l : List D) : sIx (.tup (a :: l)) (.int 0) q x = q a := ev_ix_tup q x (atI_nat (n := 0) rfl)
theorem ev_ix1t (a b : D) (l : List D) : sIx (.tup (a :: b :: l)) (.int 1) q x = q b := ev_ix_tup q x (atI_nat (n := 1) rfl)
theorem ev_ix2t (a b c : D) (l : List D) : sIx (.tup (a :: b :: c :: l)) (.int 2) q x = q c := ev_ix_tup q x (atI_nat (n := 2) rfl)
theorem ev_ix0l (a : D) (l : List D) : sIx (.lst (a :: l)) (.int 0) q x = q a := ev_ix_lst q x (atI_nat (n := 0) rfl)
theorem ev_ix1l (a b : D) (l : List D) : sIx (.lst (a :: b :: l)) (.int 1) q x = q b := ev_ix_lst q x (atI_nat (n := 1) rfl)
theorem ev_eq_int (n : Bool) (i j : Int) : sEq n (.int i) (.int j) q x = q (.bl (n ^^ decide (i = j))) := rfl
theorem ev_eq_str (n : Bool) (i j : Str) : sEq n (.str i) (.str j) q x = q (.bl (n ^^ decide (i = j))) := rfl
theorem ev_isn (n : Bool) (a : D) : sIsN n a .non q x = q (.bl (n ^^ a.isNon)) := rfl
theorem ev_ty_non (n : String) : sIsi n .non q x = q (.bl (isTy n "NoneType")) := rfl
theorem ev_ty_bl (n : String) (b : Bool) : sIsi n (.bl b) q x = q (.bl (isTy n "bool")) := rfl
theorem ev_ty_int (n : String) (i : Int) : sIsi n (.int i) q x = q (.bl (isTy n "int")) := rfl
theorem ev_ty_str (n : String) (s : Str) : sIsi n (.str s) q x = q (.bl (isTy n "str")) := rfl
theorem ev_ty_tup (n : String) (xs : List D) : sIsi n (.tup xs) q x = q (.bl (isTy n "tuple")) := rfl
theorem ev_ty_lst (n : String) (xs : List D) : sIsi n (.lst xs) q x = q (.bl (isTy n "list")) := rfl
end
/-! ### numbers -/
theorem gcdI_eq (a b : Int) : gcdI a b = (Int.gcd a b : Int) := rfl
theorem gcdI_dvd_l (a b : Int) : gcdI a b ∣ a := Int.gcd_dvd_left ..
theorem gcdI_dvd_r (a b : Int) : gcdI a b ∣ b := Int.gcd_dvd_right ..
theorem gcdI_pos {a b : Int} (h : b ≠ 0) : 0 < gcdI a b := by
  have : 0 < Int.gcd a b := Int.gcd_pos_of_ne_zero_right a h
  rw [gcdI_eq]; omega
theorem fmod_zero_iff {a b : Int} (hb : 0 < b) : a.fmod b = 0 ↔ b ∣ a := by
  rw [Int.fmod_eq_emod_of_nonneg a (by omega)]
  exact ⟨Int.dvd_of_emod_eq_zero, Int.emod_eq_zero_of_dvd⟩
theorem whole_iff {a b : Int} (hb : 0 < b) (g : gcdI a b = 1) : a.fmod b = 0 ↔ b = 1 := by
  rw [fmod_zero_iff hb]
  constructor
  · intro h
    have : b ∣ gcdI a b := by rw [gcdI_eq]; exact Int.dvd_coe_gcd h (Int.dvd_refl b)
    rw [g] at this
    exact Int.eq_one_of_dvd_one (by omega) this
  · rintro rfl
    exact Int.one_dvd a
/-- p/q = -(r/s): whole together -/
theorem dvd_swap {p q r s : Int} (hq : q ≠ 0) (hs : s ≠ 0) (h : p * s = -r * q) : q ∣ p ↔ s ∣ r := by
  constructor
  · rintro ⟨k, rfl⟩
    refine ⟨-k, ?_⟩
    have : q * (k * s) = q * (-r) := by rw [← Int.mul_assoc, h, Int.mul_comm]
    have := Int.eq_of_mul_eq_mul_left hq this
    rw [Int.mul_neg, Int.mul_comm s k]; omega
  · rintro ⟨k, rfl⟩
    refine ⟨-k, ?_⟩
    have : s * p = s * (-(k * q)) := by rw [Int.mul_comm s p, h, Int.mul_neg, ← Int.mul_assoc, Int.neg_mul]
    have := Int.eq_of_mul_eq_mul_left hs this
    rw [this, Int.mul_neg, Int.mul_comm]
end DL

/-! DL10: while, list comprehensions, zip, enumerate over data. -/
namespace DL
open PySem L2
/-! ### while -/
/-- W: what holds ahead of a test, by a measure -/
def fWhile (t : FT) (b : FS) : FS := fun ρ d => ∃ W : Nat → Ro → Prop, (∃ m, W m ρ) ∧ ∀ m ρ, W m ρ → t ρ (fun c => if c = true then b ρ { d with nx := fun ρ' => ∃ m', m' < m ∧ W m' ρ', ct := fun ρ' => ∃ m', m' < m ∧ W m' ρ', bk := d.nx } else d.nx ρ) d.x
section
variable {X : Cx} {g : Gd} {E : XK} {k : Bool} {mb m : List Nat} {c : Expr} {body : List Stmt} {t : FT} {b : FS} {pos : Pos}
theorem ds_while (hp : PassesOwn (model X.prog X.w) X.A X.env X.xe) (hc : DT X g E m c t) (hb : DSs X g E k m m m body b) : DS X g E k mb m m (.While c body [] pos) (fWhile t b) := PSimp (ps_while hp hc hb) fun D σ H ⟨H0, F0, F, ρ, d, R, ⟨W, ⟨m0, w0⟩, turn⟩, h1, h2, h3, h4, h5⟩ => by
  refine ⟨fun mm σ' H' => ∃ F' ρ', Rel X.K g H0 F0 m σ' H' F' ρ' ∧ Ex F F' ∧ W mm ρ', ⟨m0, F, ρ, R, Ex.refl _, w0⟩, ?_⟩
  rintro mm σ' H' ⟨F', ρ', R', ex, w⟩
  refine ⟨H0, F0, F', ρ', _, d.x, R', turn mm ρ' w, fun b H2 F2 r hb => ?_, h5.step R'.fr⟩
  have ex2 : Ex F F2 := ex.trans r.f0
  cases b with
  | true =>
    rw [if_pos rfl] at hb
    refine iteT ⟨fun σ3 H3 => ∃ m', m' < mm ∧ ∃ F3 ρ3, Rel X.K g H0 F0 m σ3 H3 F3 ρ3 ∧ Ex F F3 ∧ W m' ρ3, fun σ3 H3 h => h, H0, F0, F2, ρ', _, R'.step r, hb, ?_, ?_, ?_, h4, h5⟩
    · rintro σ4 H4 F4 ρ4 R4 e4 ⟨m', l, w'⟩
      exact ⟨m', l, F4, ρ4, R4, ex2.trans e4, w'⟩
    · exact fun σ4 H4 F4 ρ4 R4 e4 n4 => h1 σ4 H4 F4 ρ4 R4 (ex2.trans e4) n4
    · rintro σ4 H4 F4 ρ4 R4 e4 ⟨m', l, w'⟩
      exact ⟨m', l, F4, ρ4, R4, ex2.trans e4, w'⟩
  | false =>
    rw [if_neg Bool.false_ne_true] at hb
    exact iteF (h1 σ' H2 F2 ρ' (R'.step r) ex2 hb)
end
/-- a loop by what holds, with a measure -/
theorem fWhile_inv {t : FT} {b : FS} {d : DEnds} (W : Nat → Ro → Prop) {m : Nat} {ρ : Ro} (h : W m ρ)
    (turn : ∀ m ρ, W m ρ → ∀ nx : Ro → Prop, (∀ m' ρ', m' < m → W m' ρ' → nx ρ') → t ρ (fun c => if c = true then b ρ { d with nx := nx, ct := nx, bk := d.nx } else d.nx ρ) d.x) : fWhile t b ρ d :=
  ⟨W, ⟨m, h⟩, fun m ρ w => turn m ρ w _ fun m' ρ' l w' => ⟨m', l, w'⟩⟩
/-! ### slots forgotten -/
def wipeD (ρ : Ro) : List Nat → Ro
  | [] => ρ
  | v :: vs => (wipeD ρ vs).set v none
theorem wipe_set {σ : L2.St} {i : Nat} {x : Option V} : ∀ {vs : List Nat}, i ∈ vs → wipe (σ.set i x) vs = wipe σ vs
  | v :: vs, h => by
    unfold wipe
    by_cases hv : i ∈ vs
    · rw [wipe_set hv]
    · have e : i = v := by
        rcases List.mem_cons.mp h with e | e
        · exact e
        · exact absurd e hv
      subst e
      rw [wipe_setN hv, List.set_set]
where
  wipe_setN {σ : L2.St} {i : Nat} {x : Option V} : ∀ {vs : List Nat}, i ∉ vs → wipe (σ.set i x) vs = (wipe σ vs).set i x
  | [], _ => rfl
  | v :: vs, h => by
    unfold wipe
    rw [wipe_setN fun e => h (List.mem_cons_of_mem _ e)]
    exact List.set_comm _ _ fun e => h (by rw [e]; exact List.mem_cons_self ..)
theorem wipe_idem (σ : L2.St) : ∀ vs : List Nat, wipe (wipe σ vs) vs = wipe σ vs := fun vs => go σ vs vs fun _ h => h
where
  go (σ : L2.St) (vs : List Nat) : ∀ us : List Nat, (∀ i ∈ us, i ∈ vs) → wipe (wipe σ us) vs = wipe σ vs
  | [], _ => rfl
  | u :: us, h => by
    show wipe ((wipe σ us).set u none) vs = wipe σ vs
    rw [wipe_set (h u (List.mem_cons_self ..))]
    exact go σ vs us fun i hi => h i (List.mem_cons_of_mem _ hi)
section
variable {K : PySem.W.Frag} {g : Gd} {H0 F0 H F : Hp} {m : List Nat} {σ : L2.St} {ρ : Ro}
theorem Rel.drop (r : Rel K g H0 F0 m σ H F ρ) {i : Nat} (hi : i ∉ m) : Rel K g H0 F0 m (σ.set i none) H F (ρ.set i none) := by
  refine ⟨r.fr, by rw [List.length_set, List.length_set]; exact r.len, fun j d h1 h2 => ?_, ?_⟩
  · rcases set_get h1 with ⟨rfl, e⟩ | ⟨hj, e⟩
    · cases e
    · obtain ⟨v, e1, e2⟩ := r.vals j d e h2
      exact ⟨v, by rw [List.getElem?_set_ne (Ne.symm hj)]; exact e1, e2⟩
  · obtain ⟨oa, h1, h2⟩ := r.own
    refine ⟨oa, fun j hj => ?_, h2⟩
    obtain ⟨vs, xs, e1, e2, e3⟩ := h1 j hj
    have hne : i ≠ j := fun z => hi (by rw [z]; exact hj)
    exact ⟨vs, xs, by rw [List.getElem?_set_ne hne]; exact e1, by rw [List.getElem?_set_ne hne]; exact e2, e3⟩
theorem Rel.wipe (r : Rel K g H0 F0 m σ H F ρ) : ∀ {vs : List Nat}, (∀ i ∈ vs, i ∉ m) → Rel K g H0 F0 m (wipe σ vs) H F (wipeD ρ vs)
  | [], _ => r
  | v :: vs, h => (r.wipe fun i hi => h i (List.mem_cons_of_mem _ hi)).drop (h v (List.mem_cons_self ..))
end
/-! ### targets of a comprehension -/
def tGw (K : PySem.W.Frag) (g : Gd) (m vs : List Nat) (f : FG) : TG := fun v σ H Q => ∃ H0 F0 F ρ d q, Rel K g H0 F0 m σ H F ρ ∧ Is K F v d ∧ f d ρ q ∧ ∀ σ' ρ', Rel K g H0 F0 m σ' H F ρ' → wipe σ' vs = wipe σ vs → q ρ' → Q σ' H
abbrev DGw (X : Cx) (g : Gd) (m vs : List Nat) (e : Expr) (f : FG) : Prop := PG X e (tGw X.K g m vs f)
def tGsw (K : PySem.W.Frag) (g : Gd) (m vs : List Nat) (f : FGs) : TGs := fun ws σ H Q => ∃ H0 F0 F ρ ds q, Rel K g H0 F0 m σ H F ρ ∧ IsAll K F ws ds ∧ f ds ρ q ∧ ∀ σ' ρ', Rel K g H0 F0 m σ' H F ρ' → wipe σ' vs = wipe σ vs → q ρ' → Q σ' H
abbrev DGsw (X : Cx) (g : Gd) (m vs : List Nat) (es : List Expr) (f : FGs) : Prop := PGs X es (tGsw X.K g m vs f)
section
variable {X : Cx} {g : Gd} {m vs : List Nat} {e : Expr} {es : List Expr} {f : FG} {fs : FGs} {pos : Pos}
theorem dgw_name {i : Nat} {x : Str} (hN : X.N.Nodup) (hi : X.N[i]? = some x) (hx : Loc X.env.scope x) (hf : X.fn x = true ∨ X.env.scope.names.lookup x = some .local) (hv : vs.contains i = true := by rfl) (hm : m.contains i = false := by rfl) : DGw X g m vs (.Name x pos) (fName i) :=
  PGimp (pg_name hN hi hx hf) fun v σ H Q ⟨H0, F0, F, ρ, d, q, R, is, hf, hq⟩ => by
  have h := R.set is hf.1
  have e : m.filter (· ≠ i) = m := List.filter_eq_self.mpr fun j hj => by
    have : j ≠ i := fun z => by
      have : m.contains j = true := by simpa using hj
      rw [z, hm] at this
      cases this
    simpa using this
  rw [e] at h
  exact hq _ _ h (wipe_set (by simpa using hv)) hf.2
theorem dgsw_nil : DGsw X g m vs [] fGnil := PGsimp pgs_nil fun ws σ H Q ⟨H0, F0, F, ρ, ds, q, R, is, hf, hq⟩ => by
  obtain ⟨rfl, hf⟩ := hf
  cases is
  exact ⟨rfl, hq _ _ R rfl hf⟩
theorem dgsw_cons (h1 : DGw X g m vs e f) (h2 : DGsw X g m vs es fs) (hs : (assignEach (e :: es) X.env).map (·.2) = assign e X.env :: (assignEach es X.env).map (·.2) := by rfl) : DGsw X g m vs (e :: es) (fGcons f fs) :=
  PGsimp (pgs_cons h1 h2 hs) fun ws σ H Q ⟨H0, F0, F, ρ, ds, q, R, is, hf, hq⟩ => by
  unfold fGcons at hf
  split at hf
  · exact hf.elim
  · cases is with
    | cons i1 i2 => exact ⟨_, _, rfl, H0, F0, F, ρ, _, _, R, i1, hf, fun σ' ρ' R' w hf' => ⟨H0, F0, F, ρ', _, q, R', i2, hf', fun σ2 ρ2 R2 w2 h2 => hq _ _ R2 (w2.trans w) h2⟩⟩
theorem dgw_tup {k n : Nat} (hc : X.calm = true) (h : DGsw X g m vs es fs) (hn : (assignEach es X.env).length = n := by rfl) (hst : (assignEach es X.env).findIdx? (·.1) = none := by rfl) : DGw X g m vs (.Tuple es k pos) (fGtup n fs) :=
  PGimp (pg_tup hc h hn hst) fun v σ H Q ⟨H0, F0, F, ρ, d, q, R, is, hf, hq⟩ => by
  unfold fGtup at hf
  split at hf
  · cases is with
    | tup h1 h2 => exact ⟨_, _, rfl, R.fr.sub.sqT h1.sqT, by rw [h2.length]; exact hf.1, H0, F0, F, ρ, _, q, R, h2, hf.2, hq⟩
  · exact hf.elim
end
/-! ### [e for t in it if c] -/
def fYes : FT := fun _ q _ => q true
def lcL (t : FG) (tt : FT) (fe : FE) (vs : List Nat) (ρ : Ro) (q : D → Prop) (x : XD) : List D → List D → Prop
  | [], acc => q (.lst acc)
  | a :: r, acc => t a (wipeD ρ vs) fun ρ1 => tt ρ1 (fun b => if b = true then fe ρ1 (fun d => acc.length < LN ∧ lcL t tt fe vs ρ q x r (acc ++ [d])) x else lcL t tt fe vs ρ q x r acc) x
def fLc (i : FI) (t : FG) (tt : FT) (fe : FE) (vs : List Nat) : FE := fun ρ q x => i ρ (fun ds => lcL t tt fe vs ρ q x ds []) x
section
variable {X : Cx} {g : Gd} {E : XK} {m : List Nat} {elt tg iter : Expr} {ifs : List Expr} {scope : Scope} {own : List (Str × Nat)} {pos : Pos} {fi : FI} {t : FG} {tt : FT} {fe : FE}
theorem dts_nil : PTs X [] (tT X.K g E m fYes) := ⟨fun pins s σ H Q I ⟨H0, F0, F, ρ, q, x, R, hf, hq, hx⟩ => pts_nil.run pins s σ H Q I (hq true H F R.fr.self hf)⟩
theorem dts_one {c : Expr} (h : DT X g E m c tt) : PTs X [c] (tT X.K g E m tt) := pts_one h
/-- what is read of a comprehension -/
theorem lc_read {vs : List Nat} (hm : vs.all (fun i => !m.contains i) = true) {σ : L2.St} {H : Hp} {Q : VK} (h : tF X.K g E m (fLc fi t tt fe vs) σ H Q) : tLc (tI X.K g E m fi) (tGw X.K g m vs t) (tT X.K g E m tt) (tE X.K g E m fe) vs σ H Q := by
  obtain ⟨H0, F0, F, ρ, q, x, R, hf, hq, hx⟩ := h
  have hm' : ∀ i ∈ vs, i ∉ m := fun i hi hj => by
    have := List.all_eq_true.mp hm i hi
    have h2 : m.contains i = true := by simpa using hj
    rw [h2] at this
    cases this
  refine ⟨H0, F0, F, ρ, _, x, R, hf, fun J H1 F1 ds r1 y hd D hD => ?_, hx⟩
  have R1 := R.step r1
  have nD : H D = none := r1.back hD
  refine ⟨fun i mm H' => mm = ds.length - i ∧ i ≤ ds.length ∧ ∃ F' vs' acc, Fr g H F H' F' ∧ Ex F1 F' ∧ H' D = some (.lst vs') ∧ IsAll X.K F' vs' acc ∧ F' D = none ∧ lcL t tt fe vs ρ q x (ds.drop i) acc,
    ⟨_, rfl, Nat.zero_le _, F1, [], [], r1.trans (R1.fr.newO hD), Ex.refl _, upd_same, .nil, R1.fr.freeF hD, hd⟩, ?_⟩
  rintro i mm H' ⟨rfl, hi, F', vs', acc, r', ex, hl, ha, hFD, hlc⟩
  by_cases hlt : i < ds.length
  · refine .inr ⟨y.go i H' (ex.trans r'.sub) hlt, fun H2 => ∃ F2 vs2 acc2, Fr g H F H2 F2 ∧ Ex F1 F2 ∧ H2 D = some (.lst vs2) ∧ IsAll X.K F2 vs2 acc2 ∧ F2 D = none ∧ lcL t tt fe vs ρ q x (ds.drop (i + 1)) acc2,
      fun H2 h => ⟨ds.length - (i + 1), by omega, rfl, hlt, h⟩, fun x' H2 hy => ?_⟩
    obtain ⟨F2, r2, is2⟩ := y.yl g i ds[i] H' F' x' H2 r'.self ex (List.getElem?_eq_getElem hlt) hy
    rw [List.drop_eq_getElem_cons hlt] at hlc
    have r12 := r'.trans r2
    have hlc' : t ds[i] (wipeD ρ vs) (fun ρ1 => tt ρ1 (fun b => if b = true then fe ρ1 (fun d => acc.length < LN ∧ lcL t tt fe vs ρ q x (ds.drop (i + 1)) (acc ++ [d])) x else lcL t tt fe vs ρ q x (ds.drop (i + 1)) acc) x) := hlc
    refine ⟨H0, F0, F2, wipeD ρ vs, ds[i], _, (R.step r12).wipe hm', is2, hlc', fun σ3 ρ3 R3 hw hb3 => ⟨hw.trans (by rw [wipe_idem]), ?_⟩⟩
    refine ⟨H0, F0, F2, ρ3, _, x, R3, hb3, fun b H3 F3 r3 hb => ?_, hx.step r12⟩
    have r13 := r12.trans r3
    have nM : ¬ g.M D := fun z => (R.fr.nm D z).2 |> fun h => (R.fr.there h) nD
    have d2 := r2.pre D _ nM hl
    have d3 := r3.pre D _ nM d2
    have f2 : F2 D = none := (r2.old D (by rw [hl]; exact fun z => by cases z)).trans hFD
    have f3 : F3 D = none := (r3.old D (by rw [d2]; exact fun z => by cases z)).trans f2
    cases b with
    | true =>
      rw [if_pos rfl] at hb
      refine iteT ⟨H0, F0, F3, ρ3, _, x, R3.step r3, hb, fun yv H4 F4 d r4 i4 hd4 => ?_, (hx.step r12).step r3⟩
      have d4 := r4.pre D _ nM d3
      have f4 : F4 D = none := (r4.old D (by rw [d3]; exact fun z => by cases z)).trans f3
      refine ⟨vs', d4, LN_lt (by rw [ha.length]; exact Nat.le_of_lt hd4.1), F4, vs' ++ [yv], acc ++ [d], (r13.trans r4).write nD f4, ((ex.trans r2.f0).trans r3.f0).trans r4.f0, upd_same, ((ha.up r2.f0).up r3.f0 |>.up r4.f0).append (.cons i4 .nil), f4, hd4.2⟩
    | false =>
      rw [if_neg Bool.false_ne_true] at hb
      exact iteF ⟨F3, vs', acc, r13, (ex.trans r2.f0).trans r3.f0, d3, (ha.up r2.f0).up r3.f0, f3, hb⟩
  · have e : i = ds.length := by omega
    subst e
    rw [List.drop_length] at hlc
    exact .inl ⟨y.stop _ H' (ex.trans r'.sub) (Nat.le_refl _), hq D H' F' vs' acc r' nD hl hFD ha hlc⟩
theorem df_lc (hc : X.calm = true) (hN : X.N.Nodup) (hi : DI X g E m tg iter fi) (ok : BlkOk X.N X.env.scope scope own)
    (hg : ∀ (s : Shared) (H : Hp) (C : Addr) (cl : List (Str × Addr)) (fp : List Addr), DGw (X.blk s H scope (compEnvC scope cl C X.env) fp) g m (own.map (·.2)) tg t)
    (ht : ∀ (s : Shared) (H : Hp) (C : Addr) (cl : List (Str × Addr)) (fp : List Addr), PTs (X.blk s H scope (compEnvC scope cl C X.env) fp) ifs (tT X.K g E m tt))
    (he : ∀ (s : Shared) (H : Hp) (C : Addr) (cl : List (Str × Addr)) (fp : List Addr), DE (X.blk s H scope (compEnvC scope cl C X.env) fp) g E m elt fe)
    (hm : (own.map (·.2)).all (fun i => !m.contains i) = true := by rfl) (hs : ∀ x, foldedSetIterable iter X.env x = pure x := by intro _; rfl) :
    DF X g E m (.ListComp elt [⟨tg, iter, ifs, 0⟩] scope pos) (fLc fi t tt fe (own.map (·.2))) := PEimp (pe_lc (g := tGw X.K g m (own.map (·.2)) t) (te := tE X.K g E m fe) hc hN hi ok hg ht he hs) fun σ H Q h => lc_read hm h
variable {kd : Bool} {mb : List Nat} {spos : Pos}
/-- name = [..] on one line: data -/
theorem ds_setLc {i : Nat} {y : Str} {py : Pos} (hc : X.calm = true) (hN : X.N.Nodup) (hy : X.N[i]? = some y) (hyl : X.env.scope.names.lookup y = some .local) (hi : DI X g E m tg iter fi) (ok : BlkOk X.N X.env.scope scope own)
    (hg : ∀ (s : Shared) (H : Hp) (C : Addr) (cl : List (Str × Addr)) (fp : List Addr), DGw (X.blk s H scope (compEnvC scope cl C X.env) fp) g m (own.map (·.2)) tg t)
    (ht : ∀ (s : Shared) (H : Hp) (C : Addr) (cl : List (Str × Addr)) (fp : List Addr), PTs (X.blk s H scope (compEnvC scope cl C X.env) fp) ifs (tT X.K g E m tt))
    (he : ∀ (s : Shared) (H : Hp) (C : Addr) (cl : List (Str × Addr)) (fp : List Addr), DE (X.blk s H scope (compEnvC scope cl C X.env) fp) g E m elt fe)
    (hsw : swapsWith (.ListComp elt [⟨tg, iter, ifs, 0⟩] scope pos) (some (.Name y py)) spos.line X.env = pure true := by rfl)
    (hm : (own.map (·.2)).all (fun i => !m.contains i) = true := by rfl) (hs : ∀ x, foldedSetIterable iter X.env x = pure x := by intro _; rfl) :
    DS X g E kd mb m (del m i) (.Assign [.Name y py] (.ListComp elt [⟨tg, iter, ifs, 0⟩] scope pos) spos) (fAsg (fLc fi t tt fe (own.map (·.2))) (fName i)) :=
  PSimp (ps_setLc (own := own) (g := tGw X.K g m (own.map Prod.snd) t) (te := tE X.K g E m fe) hc hN hy hyl hsw hi ok hg ht he hs) fun D σ H ⟨H0, F0, F, ρ, d, R, hf, h1, h2, h3, h4, h5⟩ =>
    show tLc (tI X.K g E m fi) (tGw X.K g m (own.map (·.2)) t) (tT X.K g E m tt) (tE X.K g E m fe) (own.map (·.2)) σ H (fun v H1 => D.nx (σ.set i (some v)) H1) from
    lc_read hm ⟨H0, F0, F, ρ, _, d.x, R, hf, fun p H' F' vs xs q n e1 e2 ha hd => h1 _ H' _ _ ((R.step (q.freeze e1 n e2)).set (.lst upd_same (ha.up (upd_ex e2))) hd.1) (q.f0.trans (upd_ex e2)) hd.2, h5.step R.fr⟩
/-- .. a list of ours -/
theorem ds_setLcF {i : Nat} {y : Str} {py : Pos} (hc : X.calm = true) (hN : X.N.Nodup) (hy : X.N[i]? = some y) (hyl : X.env.scope.names.lookup y = some .local) (hi : DI X g E m tg iter fi) (ok : BlkOk X.N X.env.scope scope own)
    (hg : ∀ (s : Shared) (H : Hp) (C : Addr) (cl : List (Str × Addr)) (fp : List Addr), DGw (X.blk s H scope (compEnvC scope cl C X.env) fp) g m (own.map (·.2)) tg t)
    (ht : ∀ (s : Shared) (H : Hp) (C : Addr) (cl : List (Str × Addr)) (fp : List Addr), PTs (X.blk s H scope (compEnvC scope cl C X.env) fp) ifs (tT X.K g E m tt))
    (he : ∀ (s : Shared) (H : Hp) (C : Addr) (cl : List (Str × Addr)) (fp : List Addr), DE (X.blk s H scope (compEnvC scope cl C X.env) fp) g E m elt fe)
    (hsw : swapsWith (.ListComp elt [⟨tg, iter, ifs, 0⟩] scope pos) (some (.Name y py)) spos.line X.env = pure true := by rfl)
    (hm : (own.map (·.2)).all (fun i => !m.contains i) = true := by rfl) (hs : ∀ x, foldedSetIterable iter X.env x = pure x := by intro _; rfl) :
    DS X g E kd mb m (i :: del m i) (.Assign [.Name y py] (.ListComp elt [⟨tg, iter, ifs, 0⟩] scope pos) spos) (fAsg (fLc fi t tt fe (own.map (·.2))) (fName i)) :=
  PSimp (ps_setLc (own := own) (g := tGw X.K g m (own.map Prod.snd) t) (te := tE X.K g E m fe) hc hN hy hyl hsw hi ok hg ht he hs) fun D σ H ⟨H0, F0, F, ρ, d, R, hf, h1, h2, h3, h4, h5⟩ =>
    show tLc (tI X.K g E m fi) (tGw X.K g m (own.map (·.2)) t) (tT X.K g E m tt) (tE X.K g E m fe) (own.map (·.2)) σ H (fun v H1 => D.nx (σ.set i (some v)) H1) from
    lc_read hm ⟨H0, F0, F, ρ, _, d.x, R, hf, fun p H' F' vs xs q n e1 e2 ha hd => h1 _ H' F' _ ((R.step q).setO hd.1 e1 e2 (R.fr.back n) ha fun j v ej hj z => by
      subst z
      obtain ⟨oa, q1, _⟩ := R.own
      obtain ⟨vs', xs', e1', _, e3', _⟩ := q1 j hj
      rw [ej] at e1'
      cases e1'
      rw [n] at e3'
      cases e3') q.f0 hd.2, h5.step R.fr⟩
end
end DL

/-! DL11: what the layers below lack: a tuple taken few times, turned round, enumerated. -/
namespace DL
open PySem PySem.Spec PyProof.Rows L2
/-! ### t * 1, () * k, t * 0 -/
theorem mul_same (l : Addr) (items : Array Value) (n : Nat) (dd : Option Addr) (sl : Array (Option Value)) (x : Int) (u : Tok) (c0 : (decide (x < -(2 ^ 63)) || decide (x ≥ 2 ^ 63)) = false) (c1 : (items.isEmpty || x == 1) = true) :
    Meets (Builtin.«tuple.__mul__» ⟨[.ref l, .int x u], []⟩) (fun _ R s => s.heap.get? l = some { cls := .type "tuple", dict := dd, data := .seq items n, slots := sl } ∧ R (.ok (.ret (Value.ref l))) s) :=
  .of_wp fun prog w A R s h => by
    obtain ⟨hp, g, d, tk, os⟩ := s
    obtain ⟨hl, h⟩ := h
    have f1 := AutoSeq1.idx_int
    wp_walk using wpAny_loadPart' hl
    refine wpAny_ite_false (decide_eq_false (by rw [c0]; exact Bool.false_ne_true)) ?_
    wp_walk using wpAny_loadPart' hl
    exact ⟨_, rfl, h⟩
theorem mul_none (l : Addr) (items : Array Value) (n : Nat) (dd : Option Addr) (sl : Array (Option Value)) (x : Int) (u : Tok) (c0 : (decide (x < -(2 ^ 63)) || decide (x ≥ 2 ^ 63)) = false) (c1 : (items.isEmpty || x == 1) = false) (c2 : (decide (x ≤ 0) || items.isEmpty) = true) :
    Meets (Builtin.«tuple.__mul__» ⟨[.ref l, .int x u], []⟩) (fun _ R s => s.heap.get? l = some { cls := .type "tuple", dict := dd, data := .seq items n, slots := sl } ∧
      R (.ok (.ret (Value.ref s.heap.objs.size))) { s with heap := s.heap.push { cls := Value.type "tuple", data := Data.seq #[] }, toks := s.toks }) :=
  .of_wp fun prog w A R s h => by
    obtain ⟨hp, g, d, tk, os⟩ := s
    obtain ⟨hl, h⟩ := h
    have f1 := AutoSeq1.idx_int
    wp_walk using wpAny_loadPart' hl
    repeat (first
      | (refine wpAny_ite_false (decide_eq_false (by rw [c0]; exact Bool.false_ne_true)) ?_; wp_walk using wpAny_loadPart' hl)
      | (refine wpAny_ite_false (decide_eq_false (by rw [c1]; exact Bool.false_ne_true)) ?_; wp_walk using wpAny_loadPart' hl))
    exact ⟨_, rfl, h⟩
def rRepS (K : PySem.W.Frag) : R2 := fun x y H Q => ∃ l k xs, x = .ref l ∧ y = .int k ∧ SqT K H l xs ∧ -1000000 ≤ k ∧ k ≤ 1000 ∧ (k ≤ 1 ∨ xs = []) ∧ (k = 1 ∨ xs = [] → Q (.ref l) H) ∧ (k ≤ 0 → xs ≠ [] → ∀ p, H p = none → Q (.ref p) (upd H p (.tup [])))
/-- t * k by what the tuple's own deed does -/
theorem times_of {X : Cx} {s : Shared} {l : Addr} {k : Int} {t : Tok} {us : List Value} {n : Nat} {dd : Option Addr} {sl : Array (Option Value)} {Qv : Value → Shared → Prop}
    (there : s.heap.get? l = some { cls := .type "tuple", dict := dd, data := .seq us.toArray n, slots := sl })
    (own : wpAny (model X.prog X.w) X.A (call (.builtin "tuple.__mul__") [.ref l, .int k t]) Qv X.xe s) :
    wpAny (model X.prog X.w) X.A (binaryOp .Mult (.ref l) (.int k t)) Qv X.xe s := by
  have first := int_rmul_tuple k t l us.toArray n dd sl
  have declines : wpAny (model X.prog X.w) X.A (call (.builtin "int.__rmul__") [.int k t, .ref l]) (fun v s' => v = .notImplemented ∧ s'.TypeIs (.ref l) "tuple" ∧
      wpAny (model X.prog X.w) X.A (call (.builtin "tuple.__mul__") [.ref l, .int k t]) Qv X.xe s') X.xe s :=
    call_meets F.slot_int_rmul (typeIs_int s k t) F.entry_int_rmul (F.args_int_rmul_2 _ _) first ⟨there, rfl, ⟨_, there, rfl⟩, own⟩
  exact wpAny_binaryOp_repeat_ref (T := "tuple") (U := "int") rfl ⟨_, there, rfl⟩ (fun s' => typeIs_int s' k t) noFill_tuple_mul
    F.fills_int_mul F.slot_int_rmul repeat_tuple F.slot_int_index.lookup declines
theorem op_repS {X : Cx} : OpR X (binaryOp .Mult) (rRepS X.K) := by
  rintro pins s σ H x y v u Q I rx ry ⟨l, k, xs, rfl, rfl, hT, lo, hi, few, q1, q2⟩
  cases rx
  obtain ⟨tk, rfl⟩ := ry
  obtain ⟨us, rel, ⟨ob, there, kind, n, data⟩, _⟩ := I.tuple hT
  obtain ⟨_, od, _, osl⟩ := ob
  cases kind
  cases data
  have fits : (decide (k < -(2 ^ 63)) || decide (k ≥ 2 ^ 63)) = false := by simp; omega
  have bare : us.toArray.isEmpty = decide (xs = []) := by
    have := rel.length
    cases us <;> cases xs <;> simp at this ⊢
  refine times_of there ?_
  by_cases same : k = 1 ∨ xs = []
  · have c1 : (us.toArray.isEmpty || k == 1) = true := by
      rw [bare]
      rcases same with rfl | e <;> simp [*]
    exact call_meets F.slot_tuple_mul ⟨_, there, rfl⟩ F.entry_tuple_mul (F.args_tuple_mul_2 _ _) (mul_same l us.toArray n od osl k tk fits c1) ⟨there, .ref l, H, I, rfl, q1 same⟩
  · have ne1 : k ≠ 1 := fun z => same (.inl z)
    have neE : xs ≠ [] := fun z => same (.inr z)
    have low : k ≤ 0 := by rcases few with h | h <;> first | omega | exact absurd h neE
    have c1 : (us.toArray.isEmpty || k == 1) = false := by rw [bare]; simp [ne1, neE]
    have c2 : (decide (k ≤ 0) || us.toArray.isEmpty) = true := by simp [low]
    have new : Inv X pins σ (upd H s.heap.objs.size (.tup [])) { s with heap := s.heap.push { cls := .type "tuple", data := .seq #[] }, toks := s.toks } :=
      I.laid (fun _ _ z => Heap.get?_push_of_some _ z) (Nat.le_refl _) ⟨by decide, [], .nil, IsTup.new _ _⟩
    exact call_meets F.slot_tuple_mul ⟨_, there, rfl⟩ F.entry_tuple_mul (F.args_tuple_mul_2 _ _) (mul_none l us.toArray n od osl k tk fits c1 c2) ⟨there, .ref _, _, new, rfl, q2 low neE _ (I.hok.fresh (Nat.le_refl _))⟩
/-- t * k -/
def sRepT : Sem2T := fun a b q _ => match a, b with
  | .tup xs, .int k => xs.length ≤ 1000 ∧ -1000000 ≤ k ∧ k ≤ 1000 ∧ q (.tup (List.replicate k.toNat xs).flatten)
  | _, _ => False
theorem sem_repT {K : PySem.W.Frag} : Sem2 K (fun x y H Q => rRepT K x y H Q ∨ rRepS K x y H Q) sRepT := by
  intro g E H F v w a b q x Q r ia ib hs hq hx
  unfold sRepT at hs
  split at hs
  · obtain ⟨hl, hk1, hk2, hs⟩ := hs
    rename_i xs k
    obtain ⟨p, vs, rfl, h1, h2⟩ := ia.tup
    have e1 := h2.length
    have e2 : ∀ {α : Type} (zs : List α), (List.replicate 0 zs).flatten = [] := fun _ => rfl
    by_cases h : 2 ≤ k ∧ vs ≠ []
    · exact .inl ⟨_, _, _, rfl, ib.int, r.sub.sqT h1.sqT, h.2, h.1, hk2, by omega, fun p hp => hq _ _ (upd F p _) _ (r.new hp) (.tup (.inl upd_same) ((h2.repF _).up (r.new (o := .tup (List.replicate k.toNat vs).flatten) hp).f0)) hs⟩
    · refine .inr ⟨_, _, _, rfl, ib.int, r.sub.sqT h1.sqT, hk1, hk2, ?_, fun hk => ?_, fun hk hne p hp => ?_⟩
      · by_cases hv : vs = []
        · exact .inr hv
        · exact .inl (by
            have : ¬ 2 ≤ k := fun z => h ⟨z, hv⟩
            omega)
      · refine hq _ H F _ r (.tup h1 h2) ?_
        rcases hk with rfl | hv
        · have : (List.replicate (1 : Int).toNat xs).flatten = xs := by simp
          rw [this] at hs
          exact hs
        · have hx0 : xs = [] := List.eq_nil_of_length_eq_zero (by rw [← e1, hv]; rfl)
          rw [hx0] at hs ⊢
          simpa using hs
      · have hk' : k.toNat = 0 := by omega
        rw [hk'] at hs
        exact hq _ _ (upd F p _) _ (r.new hp) (.tup (.inl upd_same) .nil) hs
  · exact hs.elim
theorem de_repT {X : Cx} {g : Gd} {E : XK} {m : List Nat} {a b : Expr} {fa fb : FE} {pos : Pos} (ha : DB X g E m a fa) (hb : DB X g E m b fb) : DE X g E m (.BinOp a .Mult b pos) (f2 sRepT fa fb) := de_2 (pe_op (op_repT.or op_repS) ha hb) sem_repT
/-! ### t[::-1] -/
section
variable {prog : Program} {w : World} {A : Around} {E : Value → Shared → Prop} {s : Shared}
theorem adjust_back (n : Nat) : Builtin.Slice.sliceAdjust none none (-1) (n : Int) = ((n : Int) - 1, -1) := by
  unfold Builtin.Slice.sliceAdjust
  simp
theorem places_back (n : Nat) : Builtin.Slice.slicePlaces ((n : Int) - 1) (-1) (-1) = n := by
  unfold Builtin.Slice.slicePlaces
  simp
  omega
theorem fm_congr {α β : Type} {f g : α → Option β} : ∀ {l : List α}, (∀ x ∈ l, f x = g x) → l.filterMap f = l.filterMap g
  | [], _ => rfl
  | x :: l, h => by
    rw [List.filterMap_cons, List.filterMap_cons, h x (List.mem_cons_self ..), fm_congr fun y hy => h y (List.mem_cons_of_mem _ hy)]
theorem pick_back (us : List Value) : ((List.range us.length).filterMap fun (k : Nat) => us.toArray[(((us.length : Nat) : Int) - 1 + (k : Int) * (-1)).toNat]?) = us.reverse := by
  have e : ∀ k ∈ List.range us.length, us.toArray[(((us.length : Nat) : Int) - 1 + (k : Int) * (-1)).toNat]? = us.reverse[k]? := fun k hk => by
    have hk := List.mem_range.mp hk
    have : (((us.length : Nat) : Int) - 1 + (k : Int) * (-1)).toNat = us.length - 1 - k := by omega
    rw [this, List.getElem?_toArray, List.getElem?_reverse hk]
  rw [fm_congr e]
  have h := pick_run us.reverse.toArray 0 us.length
  rw [List.filterMap_map] at h
  have e2 : ((fun x => us.reverse.toArray[x]?) ∘ fun x => 0 + x) = fun k : Nat => us.reverse[k]? := by funext k; simp
  rw [e2] at h
  rw [h, List.drop_zero, ← List.length_reverse (as := us), List.take_length]
theorem applied_back {sl : Addr} {vs : Value} {n : Nat} {Q : Int × Int × Nat → Shared → Prop} (hs : s.heap.IsSliceOf sl .none .none vs) (ps : IsPart vs (some (-1))) (h : Q ((n : Int) - 1, -1, n) s) :
    wpAny (model prog w) A (Builtin.Slice.sliceApplied (.ref sl) (pure (n : Int))) Q E s := by
  obtain ⟨ob, there, _, flds⟩ := hs
  unfold Builtin.Slice.sliceApplied
  unfold Builtin.Slice.sliceFields
  refine wpAny_bind (wpAny_bind (wpAny_field there flds (x := .none) rfl ?_))
  refine wpAny_bind (wpAny_field there flds (x := .none) rfl ?_)
  refine wpAny_bind (wpAny_field there flds (x := vs) rfl (wpAny_pure ?_))
  refine wpAny_bind (HT.slicePart_ ps ?_)
  show wpAny _ _ (if ((-1 : Int) == 0) = true then _ else _) _ _ s
  rw [if_neg (by decide)]
  refine wpAny_bind (HT.slicePart_ .none ?_)
  refine wpAny_bind (HT.slicePart_ .none ?_)
  refine wpAny_bind (wpAny_pure ?_)
  show wpAny _ _ (match Builtin.Slice.sliceAdjust none none (-1) (n : Int) with | (lo, hi) => pure (lo, (-1 : Int), Builtin.Slice.slicePlaces lo hi (-1))) _ _ s
  rw [adjust_back n]
  show wpAny _ _ (pure ((n : Int) - 1, (-1 : Int), Builtin.Slice.slicePlaces ((n : Int) - 1) (-1) (-1))) _ _ s
  rw [places_back]
  exact wpAny_pure h
/-- t[::-1] of a tuple -/
theorem item_back {t sl : Addr} {us : List Value} {vs : Value} {Q : Value → Shared → Prop} (ht : IsTup s.heap t us.toArray) (hs : s.heap.IsSliceOf sl .none .none vs) (ps : IsPart vs (some (-1))) (small : us.length ≤ sizeLine)
    (h : Q (.ref s.heap.objs.size) { s with heap := s.heap.push { cls := .type "tuple", data := .seq us.reverse.toArray } }) : wpAny (model prog w) A (getItem (.ref t) (.ref sl)) Q E s := by
  have isS : s.TypeIs (.ref sl) "slice" := let ⟨o, h1, h2, _⟩ := hs; ⟨o, h1, h2⟩
  have fits : sizeOk (.seq us.reverse.toArray) := by
    show us.reverse.toArray.size ≤ sizeLine
    rw [List.size_toArray, List.length_reverse]; exact small
  unfold getItem
  first | refine wpAny_holding ?_ | skip
  first | refine wpAny_bind (wpAny_pure ?_) | skip
  refine wpAny_bind (wpAny_sequenceKey ht.typeIs (by decide) ?_)
  refine wpAny_bind (wpAny_callSpecial?_slot (name := Str.ofString "__getitem__") ht.typeIs PyProof.Rows.slot_tuple_getitem (wpAny_call_entry PyProof.Rows.slot_tuple_getitem ht.typeIs entry_tuple_getitem ?_ (args_tuple_getitem _ _)))
  show wpAny _ _ (Builtin.Tuple.tupleItemsOf (.ref t) >>= _) _ _ s
  refine wpAny_bind (tupleItemsOf_ ht (wpAny_bind (wpAny_typeOf isS ?_)))
  rw [if_pos (by decide)]
  have len : ((us.toArray.size : Nat) : Int) = ((us.length : Nat) : Int) := by rw [List.size_toArray]
  rw [len]
  refine wpAny_bind (applied_back hs ps ?_)
  have no : ¬ ((((us.length : Nat) : Int) - 1 == 0 && (-1 : Int) == 1 && us.length == us.toArray.size) = true) := by simp
  show wpAny _ _ (if (((us.length : Nat) : Int) - 1 == 0 && (-1 : Int) == 1 && us.length == us.toArray.size) = true then _ else _) _ _ s
  rw [if_neg no, pick_back]
  have fin : wpAny (model prog w) A (pure (Value.ref s.heap.objs.size)) Q E { s with heap := s.heap.push { cls := .type "tuple", data := .seq us.reverse.toArray } } := wpAny_pure h
  exact wpAny_bind (m := Builtin.Tuple.tupleExact _) (wpAny_newObj_type (wpAny_pure ⟨_, rfl, fin⟩) fits)
end
def tRevT (K : PySem.W.Frag) (te : TE) : TE := fun σ H Q => te σ H fun x H1 => ∃ a xs, x = .ref a ∧ SqT K H1 a xs ∧ ∀ p, H1 p = none → Q (.ref p) (upd H1 p (.tup xs.reverse))
theorem pe_revT {X : Cx} {e : Expr} {te : TE} {k : Nat} {p1 p2 p3 pos : Pos} (he : PE X e te) : PE X (.Subscript e (.Slice none none (some (.UnaryOp .USub (.Constant (.int 1) k p1) p2)) p3) pos) (tRevT X.K te) := by
  refine ⟨fun pins s σ H Q I h => Subscript_ (thn (he.run pins s σ H _ I h) fun v s1 ⟨x, H1, I1, r1, a, xs, ex, hx, q⟩ => ?_)⟩
  subst ex
  cases r1
  refine wpAny_Slice (thn (po_none.run pins s1 σ H1 (fun o H2 => o = none ∧ H2 = H1) I1 ⟨rfl, rfl⟩) fun vl s2 ⟨l, H2, I2, pl, el, e2⟩ => ?_)
  subst el e2
  refine thn (po_none.run pins s2 σ H2 (fun o H3 => o = none ∧ H3 = H2) I2 ⟨rfl, rfl⟩) fun vu s3 ⟨u, H3, I3, pu, eu, e3⟩ => ?_
  subst eu e3
  have last : PO X (some (.UnaryOp .USub (.Constant (.int 1) k p1) p2)) (tPart (tUn (rU fun i => .int (-i)) (tC (.int 1)))) := po_some (pe_un un_neg pe_int)
  refine thn (last.run pins s3 σ H3 (fun o H4 => o = some (-1) ∧ H4 = H3) I3 ⟨1, rfl, -1, rfl, rfl, rfl⟩) fun vs s4 ⟨o, H4, I4, ps, eo, e4⟩ => ?_
  subst eo e4
  cases pl
  cases pu
  have I5 : Inv X pins σ H4 { s4 with heap := s4.heap.push { cls := .type "slice", data := .fields #[.none, .none, vs] } } := I4.kept (t' := s4.toks) fun b ob z => Heap.get?_push_of_some _ z
  obtain ⟨us, rel, ht, small⟩ := I5.tuple hx
  show wpAny (model X.prog X.w) X.A (subscriptTail e (.Slice none none (some (.UnaryOp .USub (.Constant (.int 1) k p1) p2)) p3) (.ref a) (.ref s4.heap.objs.size)) (EP X pins σ Q) X.xe { s4 with heap := s4.heap.push { cls := .type "slice", data := .fields #[.none, .none, vs] } }
  refine tail_any (ops := [.ref a, .ref s4.heap.objs.size]) ht.typeIs (PyProof.Rows.slot_tuple_getitem.lookup) ?_ (by with_unfolding_all rfl)
  refine item_back ht (Heap.IsSliceOf.new _ .none .none vs) ps (by have := rel.length; omega) ?_
  refine ⟨.ref _, _, I5.laid (t' := s4.toks) (o := .tup xs.reverse) (fun b ob z => Heap.get?_push_of_some _ z) (Nat.le_refl _) ?_, rfl, q _ (I5.hok.fresh (Nat.le_refl _))⟩
  exact ⟨by rw [List.length_reverse]; have := rel.length; omega, _, rel.reverse, IsTup.new _ _⟩
/-- t[::-1] -/
def sRevT : Sem1T := fun a q _ => match a with | .tup xs => q (.tup xs.reverse) | _ => False
theorem de_revT {X : Cx} {g : Gd} {E : XK} {m : List Nat} {e : Expr} {fe : FE} {k : Nat} {p1 p2 p3 pos : Pos} (h : DB X g E m e fe) : DE X g E m (.Subscript e (.Slice none none (some (.UnaryOp .USub (.Constant (.int 1) k p1) p2)) p3) pos) (f1 sRevT fe) :=
  de_1 (r := fun v H Q => ∃ a xs, v = .ref a ∧ SqT X.K H a xs ∧ ∀ p, H p = none → Q (.ref p) (upd H p (.tup xs.reverse))) (pe_revT h) fun g E H F v a q x Q r ia hs hq hx => by
  unfold sRevT at hs
  split at hs
  · obtain ⟨p, ys, rfl, h1, h2⟩ := ia.tup
    exact ⟨_, _, rfl, r.sub.sqT h1.sqT, fun l hl => hq _ _ (upd F l (.tup ys.reverse)) _ (r.new hl) (.tup (.inl upd_same) (h2.reverse.up (r.new (o := .tup ys.reverse) hl).f0)) hs⟩
  · exact hs.elim
end DL

/-! DL12: enumerate of a tuple; enumerate, zip over data. -/
namespace DL
open PySem PySem.Spec PyProof.Rows L2
theorem enum_new {v : Value} {o : Obj} {Hh : Heap → Prop} (B : Begins v o Hh) :
    Meets (Builtin.«enumerate.__new__» ⟨[.type "enumerate", v], []⟩) (fun _ R s => Hh s.heap ∧
      R (.ok (.ret (.ref (s.heap.push o).objs.size))) { s with heap := (s.heap.push o).push { cls := .type "enumerate", data := .fields #[.none, .bool false, .ref s.heap.objs.size, rawInt 0, .none, .none] } }) :=
  .of_wp fun prog w A R s h => by
    obtain ⟨hp, gs, dr, tk, os⟩ := s
    obtain ⟨there, h⟩ := h
    have sub := sub_enumerate
    have it : ∀ {A' : Around} {E : Value → Shared → Prop} {Q : Value → Shared → Prop}, Q (.ref hp.objs.size) ⟨hp.push o, gs, dr, tk, os⟩ → wpAny (model prog w) A' (pyIter v) Q E ⟨hp, gs, dr, tk, os⟩ :=
      fun z => B.iter prog w _ _ ⟨hp, gs, dr, tk, os⟩ _ there z
    wp_walk using it
    refine wpAny_stack_any fun st => wpAny_pure ?_
    split
    · rename_i c _ _ _ _ _
      cases (c == Value.type "enumerate") <;> (wp_walk using it; exact ⟨_, rfl, h⟩)
    · wp_walk using it
      exact ⟨_, rfl, h⟩
theorem enum_call {prog : Program} {w : World} {A : Around} {E : Value → Shared → Prop} {s : Shared} {v : Value} {o : Obj} {Hh : Heap → Prop} {Q : Value → Shared → Prop} (B : Begins v o Hh) (h1 : Hh s.heap)
    (h : ∀ h', IsEnum h' (s.heap.objs.size + 1) s.heap.objs.size 0 .none → h'.get? s.heap.objs.size = some o → h'.objs.size = s.heap.objs.size + 2 → (∀ b u, s.heap.get? b = some u → h'.get? b = some u) →
      Q (.ref (s.heap.objs.size + 1)) { s with heap := h' }) : wpAny (model prog w) A (call (.type "enumerate") [v]) Q E s := by
  have sz : (s.heap.push o).objs.size = s.heap.objs.size + 1 := Heap.size_push ..
  refine callType_new F.called_enumerate (by decide) (F.typeCall_enumerate_1 _) (F.newCall_enumerate_1 _) (fun obj => F.args_object_init_2 obj _) F.entry_enumerate_new (enum_new B) ⟨h1, ?_⟩
  have last := Heap.get?_push_size (s.heap.push o) (o := { cls := .type "enumerate", data := .fields #[.none, .bool false, .ref s.heap.objs.size, rawInt 0, .none, .none] }) rfl
  rw [sz] at last ⊢
  exact ⟨⟨_, last, rfl⟩, h _ last (Heap.get?_push_of_some _ (Heap.get?_push_size _ B.free)) (by rw [Heap.size_push, sz]) fun b u z => Heap.get?_push_of_some _ (Heap.get?_push_of_some _ z)⟩
/-- the tuple at a as it stands, its items with their places in new pairs -/
def IteT (K : PySem.W.Frag) (a : Addr) : It where
  go := fun i H => ∃ (xs : List V) (x : V), SqT K H a xs ∧ xs[i]? = some x
  yld := fun i H v H' => ∃ T x, v = .ref T ∧ H T = none ∧ H' = upd H T (.tup [.int (i : Nat), x]) ∧ ∀ xs, SqT K H a xs → xs[i]? = some x
  stop := fun i H => ∃ xs : List V, SqT K H a xs ∧ xs.length ≤ i
/-- a tuple's iterator at its end gives nothing more -/
theorem no_more {prog : Program} {w : World} {A : Around} (quiet : A.handled = none) (it t : Addr) (i : Nat) (items : Array Value) (over : items[i]? = none) :
    Draws prog w A it [it, t] i (fun _ _ => False) (fun j h => h.IsTupleIter it t j ∧ h.IsTuple t items ∧ j = i) where
  live := fun _ _ ⟨⟨o, ho, _⟩, _⟩ => ⟨o, ho⟩
  frame := fun _ _ _ ⟨h1, h2, h3⟩ k => ⟨h1.at fun o z => k it (by simp) o z, h2.at fun o z => k t (by simp) o z, h3⟩
  item := fun j s Q E lt ⟨_, _, e⟩ _ => absurd e (Nat.ne_of_lt lt)
  done := fun s Q E ⟨h1, h2, _⟩ hE => wpAny_nextOf_tuple_end quiet h1 h2 over hE
theorem turn_enumT {P : Program} {w : World} {K : PySem.W.Frag} {elts : List Expr} {kk : Nat} {tpos : Pos} (a e it : Addr) (hea : e ≠ a) (hia : it ≠ a) :
    Turn P w K (.Tuple elts kk tpos) (IteT K a) [e, it] e (fun i h => (∃ old, IsEnum h e it ((i : Nat) : Int) old) ∧ h.IsTupleIter it a i ∧ e ≠ it) where
  mem := List.mem_cons_self ..
  obj := fun i h ⟨⟨old, en⟩, ⟨ob, h1, _, h3⟩, _⟩ b hb => by
    rcases List.mem_cons.mp hb with rfl | hb
    · exact ⟨_, en, fun v z => nomatch z⟩
    · rcases List.mem_cons.mp hb with rfl | hb
      · exact ⟨ob, h1, fun v z => by rw [h3] at z; cases z⟩
      · cases hb
  keep := fun i h h' ⟨⟨old, en⟩, hi, ne⟩ k => ⟨⟨old, k e (by simp) _ en⟩, hi.at fun o z => k it (by simp) o z, ne⟩
  item := by
    intro X hP hw hK hc i pins s σ H E I hf st hg
    subst hP hw hK
    obtain ⟨⟨old, en⟩, hit, ne⟩ := st
    obtain ⟨xs, x, hq, hx⟩ := hg
    obtain ⟨us, rel, p, _⟩ := I.tuple hq
    obtain ⟨u, hu, ru⟩ := rel.get hx
    have le : e < s.heap.objs.size := Heap.lt_size en
    have li : it < s.heap.objs.size := by obtain ⟨_, z, _⟩ := hit; exact Heap.lt_size z
    have D := Draws.tuple (prog := X.prog) (w := X.w) (A := X.A.in1) (show X.A.in1.handled = none from I.ok.hd hc) it a (Ne.symm hia) us.toArray
    have lt : i < us.toArray.size := by
      have := (List.getElem?_eq_some_iff.mp hu).1
      simpa using this
    refine wpAny_pyNext_enum_itemD D en ⟨hit, p⟩ lt ne (by simp [ne, hea]) fun y h' tk hy ho hs' hT hsz hk => ?_
    obtain rfl : y = u := by
      have : us.toArray[i]? = some u := by simpa using hu
      rw [this] at hy
      exact (Option.some.inj hy).symm
    refine ⟨_, rfl, wpAny_letOwnedTupleGo_enum (s := { s with heap := h', toks := tk + 1 }) ho fun h'' he' sb => ?_⟩
    have hT2 : h''.get? s.heap.objs.size = some { cls := .type "tuple", data := .seq #[.int i tk, y] } := (sb.2 _ (Nat.ne_of_gt le)).trans hT
    have new : ObjOk X.prog X.w (upd H s.heap.objs.size (.tup [.int (i : Nat), x])) h'' s.heap.objs.size (.tup [.int (i : Nat), x]) :=
      ⟨(by decide : (2 : Nat) ≤ sizeLine), [.int i tk, y], .cons ⟨_, rfl⟩ (.cons ru .nil), ⟨_, hT2, rfl, _, rfl⟩⟩
    have I1 : Inv X pins σ (upd H s.heap.objs.size (.tup [.int (i : Nat), x])) { s with heap := h'', toks := tk + 1 } :=
      I.turnedNew (ch := [e, it]) (fun b ob hb z => (sb.2 b (fun q => hb (by simp [q]))).trans (hk b ob (fun q => hb (by simp [q])) (fun q => hb (by simp [q])) z)) hf (Nat.le_refl _) new
    refine ⟨.ref s.heap.objs.size, _, I1, rfl, ⟨_, x, rfl, I.hok.fresh (Nat.le_refl _), rfl, fun ys hy => by rw [I.tuple_inj hy hq]; exact hx⟩, ⟨⟨y, ?_⟩, hs'.1.at fun o z => (sb.2 it (Ne.symm ne)).trans z, ne⟩, fun b hb => ?_⟩
    · have e1 : ((i + 1 : Nat) : Int) = (i : Int) + 1 := Int.natCast_succ i
      rw [e1]; exact he'
    · have lb : b < s.heap.objs.size := by
        rcases List.mem_cons.mp hb with rfl | hb
        · exact le
        · rcases List.mem_cons.mp hb with rfl | hb
          · exact li
          · cases hb
      rw [upd_ne (Nat.ne_of_lt lb)]
      exact (hf b hb).1
  done := by
    intro X hP hw hK hc i pins s σ H E I hf st hg
    subst hP hw hK
    obtain ⟨⟨old, en⟩, hit, ne⟩ := st
    obtain ⟨xs, hq, hx⟩ := hg
    obtain ⟨us, rel, p, _⟩ := I.tuple hq
    have over : us.toArray[i]? = none := by
      have := rel.length
      simp
      omega
    have D := no_more (prog := X.prog) (w := X.w) (A := X.A.in1) (I.ok.hd hc) it a i us.toArray over
    obtain ⟨f0, f1, f2, f3, f4, f5⟩ := hf it (by simp)
    exact wpAny_pyNext_enum_endD D en ⟨hit, p, rfl⟩ fun h' eb => ⟨rfl, I.turned (t' := s.toks) eb f0 f1 f3 f4 f5⟩
  self := fun A i s Q E ⟨⟨_, en⟩, _⟩ h => wpAny_pyIter_enum en h
/-- enumerate over a list or a tuple -/
def iEnA (K : PySem.W.Frag) (ta : TA) : TI := fun σ H R => ta σ H fun vs H1 => ∃ a xs, vs = [.ref a] ∧ SqT K H1 a xs ∧ R (IteT K a) H1
theorem pi_enumT {X : Cx} {e : Expr} {ta : TA} {p pos tpos : Pos} {elts : List Expr} {kk : Nat} (hg : Gl X "enumerate") (hm : X.mg "enumerate" = none) (ha : PA X [e] ta) (hs : starEach [e] X.env = [(false, eval e X.env)] := by rfl) :
    PI X (.Tuple elts kk tpos) (.Call (.Name "enumerate" p) [e] [] pos) (iEnA X.K ta) := by
  refine ⟨fun pins s σ H R I h => Call_ (ld_blt I hg hm boot_enumerate (PyProof.Rows.callWith_type1 (thn (ha.run pos pins s σ H _ I h) fun us s1 ⟨vs, H1, I1, r1, a, xs, ex, hq, q⟩ => ?_) hs rfl))⟩
  subst ex
  obtain ⟨u, rfl, ru⟩ := vals1 r1
  cases ru
  obtain ⟨its, rel, p', _⟩ := I1.tuple hq
  have la : a < s1.heap.objs.size := by obtain ⟨_, z, _⟩ := p'; exact Heap.lt_size z
  refine enum_call (begins_tuple a its.toArray) p' fun h' en hit hsz hk => wpAny_pyIter_enum en ?_
  have I2 : Inv X pins σ H1 { s1 with heap := h' } := I1.kept (t' := s1.toks) hk
  refine ⟨s1.heap.objs.size + 1, [s1.heap.objs.size + 1, s1.heap.objs.size], _, _, H1, rfl, I2, turn_enumT a (s1.heap.objs.size + 1) s1.heap.objs.size (Nat.ne_of_gt (Nat.lt_succ_of_lt la)) (Nat.ne_of_gt la), ⟨⟨.none, en⟩, ⟨_, hit, rfl, rfl⟩, Nat.succ_ne_self _⟩, fun b hb => ?_, q⟩
  have new : s1.heap.objs.size ≤ b := by
    rcases List.mem_cons.mp hb with rfl | hb
    · exact Nat.le_succ _
    · rcases List.mem_cons.mp hb with rfl | hb
      · exact Nat.le_refl _
      · cases hb
  exact I1.fpOk new (I1.hok.fresh new)
/-! ### over data -/
section
variable {X : Cx} {g : Gd} {E : XK} {m : List Nat} {e e2 : Expr} {fe fe2 : FE} {p pos tpos : Pos} {elts : List Expr} {kk : Nat}
/-- the items with their places -/
def enumD (ds : List D) : List D := ds.mapIdx fun i d => .tup [.int (i : Nat), d]
theorem yl_enumT {K : PySem.W.Frag} {F : Hp} {a : Addr} {vs : List V} {ds : List D} (h : SqT K F a vs) (ha : IsAll K F vs ds) : Yl K (IteT K a) F (enumD ds) where
  go := fun i H ex hi => by
    obtain ⟨v, e1, _⟩ := ha.get (List.getElem?_eq_getElem (show i < ds.length by simpa [enumD] using hi))
    exact ⟨vs, v, ex.sqT h, e1⟩
  yl := fun g i d H F1 x H' r ex hd hy => by
    obtain ⟨T, y, rfl, hT, rfl, hy⟩ := hy
    unfold enumD at hd
    rw [List.getElem?_mapIdx] at hd
    cases hd2 : ds[i]? with
    | none => rw [hd2] at hd; cases hd
    | some d2 =>
      rw [hd2] at hd
      obtain ⟨v, e1, e2⟩ := ha.get hd2
      have := hy vs (r.sub.sqT (ex.sqT h))
      rw [e1] at this
      cases this
      cases hd
      exact ⟨upd F1 T _, r.new hT, .tup (.inl upd_same) (.cons (.int _) (.cons (e2.up (ex.trans (upd_ex (r.freeF hT)))) .nil))⟩
  stop := fun i H ex hi => ⟨vs, ex.sqT h, by rw [ha.length]; simpa [enumD] using hi⟩
theorem yl_enumL {K : PySem.W.Frag} {F : Hp} {a : Addr} {vs : List V} {ds : List D} (h : F a = some (.lst vs)) (ha : IsAll K F vs ds) : Yl K (Ite K a) F (enumD ds) where
  go := fun i H ex hi => by
    obtain ⟨v, e1, _⟩ := ha.get (List.getElem?_eq_getElem (show i < ds.length by simpa [enumD] using hi))
    exact ⟨vs, v, .inl (.inl (ex _ _ h)), e1⟩
  yl := fun g i d H F1 x H' r ex hd hy => by
    obtain ⟨T, y, rfl, hT, rfl, hy⟩ := hy
    unfold enumD at hd
    rw [List.getElem?_mapIdx] at hd
    cases hd2 : ds[i]? with
    | none => rw [hd2] at hd; cases hd
    | some d2 =>
      rw [hd2] at hd
      obtain ⟨v, e1, e2⟩ := ha.get hd2
      have := hy vs (.inl (.inl (r.sub _ _ (ex _ _ h))))
      rw [e1] at this
      cases this
      cases hd
      exact ⟨upd F1 T _, r.new hT, .tup (.inl upd_same) (.cons (.int _) (.cons (e2.up (ex.trans (upd_ex (r.freeF hT)))) .nil))⟩
  stop := fun i H ex hi => ⟨vs, .inl (.inl (ex _ _ h)), by rw [ha.length]; simpa [enumD] using hi⟩
def fEnT (f : FE) : FI := fun ρ q x => f ρ (fun d => match d with | .tup xs => q (enumD xs) | _ => False) x
def fEnL (f : FE) : FI := fun ρ q x => f ρ (fun d => match d with | .lst xs => q (enumD xs) | _ => False) x
theorem di_enumT (hg : Gl X "enumerate") (hm : X.mg "enumerate" = none) (h : DE X g E m e fe) (hs : starEach [e] X.env = [(false, eval e X.env)] := by rfl) : DI X g E m (.Tuple elts kk tpos) (.Call (.Name "enumerate" p) [e] [] pos) (fEnT fe) := PIimp (pi_enumT hg hm (pa_cons h pa_nil hs) hs) fun σ H R ⟨H0, F0, F, ρ, q, x, Rl, hf, hq, hx⟩ =>
  ⟨H0, F0, F, ρ, _, x, Rl, hf, fun v H' F' d r i hd => by
    split at hd
    · cases i with
      | tup h1 h2 => exact ⟨_, _, rfl, (Rl.step r).fr.sub.sqT h1.sqT, hq _ H' F' _ r (yl_enumT h1.sqT h2) hd⟩
    · exact hd.elim, hx⟩
theorem di_enumL (hg : Gl X "enumerate") (hm : X.mg "enumerate" = none) (h : DE X g E m e fe) (hs : starEach [e] X.env = [(false, eval e X.env)] := by rfl) : DI X g E m (.Tuple elts kk tpos) (.Call (.Name "enumerate" p) [e] [] pos) (fEnL fe) := PIimp (pi_enum hg hm (pa_cons h pa_nil hs) hs) fun σ H R ⟨H0, F0, F, ρ, q, x, Rl, hf, hq, hx⟩ =>
  ⟨H0, F0, F, ρ, _, x, Rl, hf, fun v H' F' d r i hd => by
    split at hd
    · cases i with
      | lst h1 h2 => exact ⟨_, _, rfl, .inl (.inl ((Rl.step r).fr.sub _ _ h1)), hq _ H' F' _ r (yl_enumL h1 h2) hd⟩
    · exact hd.elim, hx⟩
/-! zip of two tuples, of two lists -/
def zipD (xs ys : List D) : List D := (xs.zip ys).map fun p => .tup [p.1, p.2]
theorem zipD_at {xs ys : List D} {i : Nat} {d : D} (h : (zipD xs ys)[i]? = some d) : ∃ a b, xs[i]? = some a ∧ ys[i]? = some b ∧ d = .tup [a, b] := by
  unfold zipD at h
  rw [List.getElem?_map] at h
  cases hz : (xs.zip ys)[i]? with
  | none => rw [hz] at h; cases h
  | some p =>
    rw [hz] at h
    cases h
    obtain ⟨h1, h2⟩ := List.getElem?_zip_eq_some.mp hz
    exact ⟨_, _, h1, h2, rfl⟩
theorem zipD_len (xs ys : List D) : (zipD xs ys).length = min xs.length ys.length := by simp [zipD]
theorem yl_zipT {K : PySem.W.Frag} {F : Hp} {a b : Addr} {vs ws : List V} {ds es : List D} (h : SqT K F a vs) (h' : SqT K F b ws) (ha : IsAll K F vs ds) (hb : IsAll K F ws es) : Yl K (RZ.ItzT K a b) F (zipD ds es) where
  go := fun i H ex hi => by
    rw [zipD_len] at hi
    obtain ⟨v, e1, _⟩ := ha.get (List.getElem?_eq_getElem (show i < ds.length by omega))
    obtain ⟨w, e2, _⟩ := hb.get (List.getElem?_eq_getElem (show i < es.length by omega))
    exact ⟨vs, ws, v, w, ex.sqT h, ex.sqT h', e1, e2⟩
  yl := fun g i d H F1 x H' r ex hd hy => by
    obtain ⟨T, y, z, rfl, hT, rfl, hy, hz⟩ := hy
    obtain ⟨d1, d2, q1, q2, rfl⟩ := zipD_at hd
    obtain ⟨v, e1, i1⟩ := ha.get q1
    obtain ⟨w, e2, i2⟩ := hb.get q2
    have t1 := hy vs (r.sub.sqT (ex.sqT h))
    have t2 := hz ws (r.sub.sqT (ex.sqT h'))
    rw [e1] at t1
    rw [e2] at t2
    cases t1
    cases t2
    have up := ex.trans (upd_ex (o := .tup [y, z]) (r.freeF hT))
    exact ⟨upd F1 T _, r.new hT, .tup (.inl upd_same) (.cons (i1.up up) (.cons (i2.up up) .nil))⟩
  stop := fun i H ex hi => ⟨vs, ws, ex.sqT h, ex.sqT h', by rw [zipD_len] at hi; rw [ha.length, hb.length]; omega⟩
theorem yl_zipL {K : PySem.W.Frag} {F : Hp} {a b : Addr} {vs ws : List V} {ds es : List D} (h : F a = some (.lst vs)) (h' : F b = some (.lst ws)) (ha : IsAll K F vs ds) (hb : IsAll K F ws es) : Yl K (Itz K a b) F (zipD ds es) where
  go := fun i H ex hi => by
    rw [zipD_len] at hi
    obtain ⟨v, e1, _⟩ := ha.get (List.getElem?_eq_getElem (show i < ds.length by omega))
    obtain ⟨w, e2, _⟩ := hb.get (List.getElem?_eq_getElem (show i < es.length by omega))
    exact ⟨vs, ws, v, w, .inl (.inl (ex _ _ h)), .inl (.inl (ex _ _ h')), e1, e2⟩
  yl := fun g i d H F1 x H' r ex hd hy => by
    obtain ⟨T, y, z, rfl, hT, rfl, hy, hz⟩ := hy
    obtain ⟨d1, d2, q1, q2, rfl⟩ := zipD_at hd
    obtain ⟨v, e1, i1⟩ := ha.get q1
    obtain ⟨w, e2, i2⟩ := hb.get q2
    have t1 := hy vs (.inl (.inl (r.sub _ _ (ex _ _ h))))
    have t2 := hz ws (.inl (.inl (r.sub _ _ (ex _ _ h'))))
    rw [e1] at t1
    rw [e2] at t2
    cases t1
    cases t2
    have up := ex.trans (upd_ex (o := .tup [y, z]) (r.freeF hT))
    exact ⟨upd F1 T _, r.new hT, .tup (.inl upd_same) (.cons (i1.up up) (.cons (i2.up up) .nil))⟩
  stop := fun i H ex hi => ⟨vs, ws, .inl (.inl (ex _ _ h)), .inl (.inl (ex _ _ h')), by rw [zipD_len] at hi; rw [ha.length, hb.length]; omega⟩
def fZip (f f' : FE) : FI := fun ρ q x => f ρ (fun d => f' ρ (fun e => match d, e with | .tup xs, .tup ys => q (zipD xs ys) | .lst xs, .lst ys => q (zipD xs ys) | _, _ => False) x) x
theorem di_zip (hg : Gl X "zip") (hm : X.mg "zip" = none) (h : DE X g E m e fe) (h' : DE X g E m e2 fe2) (hs : starEach [e, e2] X.env = (false, eval e X.env) :: starEach [e2] X.env := by rfl) (hs2 : starEach [e2] X.env = (false, eval e2 X.env) :: starEach [] X.env := by rfl) (hpl : (backTo pos (starEach [e2] X.env)).any (·.1) = false := by rfl) :
    DI X g E m (.Tuple elts kk tpos) (.Call (.Name "zip" p) [e, e2] [] pos) (fZip fe fe2) := PIimp (RZ.pi_zipA hg hm (pa_cons h (pa_cons h' pa_nil hs2) hs) hs hpl) fun σ H R ⟨H0, F0, F, ρ, q, x, Rl, hf, hq, hx⟩ =>
  ⟨H0, F0, F, ρ, _, x, Rl, hf, fun v H1 F1 d r1 i1 hd => ⟨H0, F0, F1, ρ, _, x, Rl.step r1, hd, fun w H2 F2 d2 r2 i2 hd => by
    have S := ((Rl.step r1).step r2).fr.sub
    have i1 := i1.up r2.f0
    split at hd
    · cases i1 with
      | tup a1 a2 => cases i2 with
        | tup b1 b2 => exact ⟨_, _, _, _, rfl, .inr ⟨S.sqT a1.sqT, S.sqT b1.sqT, hq _ H2 F2 _ (r1.trans r2) (yl_zipT a1.sqT b1.sqT a2 b2) hd⟩⟩
    · cases i1 with
      | lst a1 a2 => cases i2 with
        | lst b1 b2 => exact ⟨_, _, _, _, rfl, .inl ⟨.inl (.inl (S _ _ a1)), .inl (.inl (S _ _ b1)), hq _ H2 F2 _ (r1.trans r2) (yl_zipL a1 b1 a2 b2) hd⟩⟩
    · exact hd.elim, hx.step r1⟩, hx⟩
end
end DL

/-! DL13: lists of ours that are changed; all, any; name += e. -/
namespace DL
open PySem PySem.Spec PyProof.Rows L2
section
variable {K : PySem.W.Frag} {g : Gd} {H0 F0 H F : Hp} {m : List Nat} {σ : L2.St} {ρ : Ro}
/-- the list that the slot i holds, to be written -/
theorem Rel.mutW (R : Rel K g H0 F0 m σ H F ρ) {i : Nat} (hi : i ∈ m) : ∃ p vs xs, σ[i]? = some (some (.ref p)) ∧ ρ[i]? = some (some xs) ∧ H p = some vs ∧ Own K F vs xs ∧
    ∀ vs' xs', Own K F vs' xs' → Rel K g H0 F0 m σ (upd H p vs') F (ρ.set i (some xs')) := by
  obtain ⟨oa, h1, h2⟩ := R.own
  obtain ⟨vs, xs, e1, e2, e3, e4, e5, e6⟩ := h1 i hi
  have il : i < ρ.length := (List.getElem?_eq_some_iff.mp e2).1
  refine ⟨oa i, vs, xs, e1, e2, e3, e4, fun vs' xs' ha => ⟨R.fr.write e6 e5 ha.noTup, by rw [List.length_set]; exact R.len, fun j d hj hm => ?_, oa, fun j hj => ?_, h2⟩⟩
  · rcases set_get hj with ⟨rfl, _⟩ | ⟨_, hj⟩
    · exact absurd hi hm
    · exact R.vals j d hj hm
  · by_cases e : j = i
    · subst e
      exact ⟨vs', xs', e1, List.getElem?_set_self il, upd_same, ha, e5, e6⟩
    · obtain ⟨ws, ys, q1, q2, q3, q4⟩ := h1 j hj
      have ne : oa j ≠ oa i := fun z => e (h2 j hj i hi z)
      exact ⟨ws, ys, q1, by rw [List.getElem?_set_ne (Ne.symm e)]; exact q2, by rw [upd_ne ne]; exact q3, q4⟩
theorem Rel.mut (R : Rel K g H0 F0 m σ H F ρ) {i : Nat} (hi : i ∈ m) {ys : List D} (hy : ρ[i]? = some (some (.lst ys))) : ∃ p vs xs, σ[i]? = some (some (.ref p)) ∧ ρ[i]? = some (some (.lst xs)) ∧ H p = some (.lst vs) ∧ IsAll K F vs xs ∧
    ∀ vs' xs', IsAll K F vs' xs' → Rel K g H0 F0 m σ (upd H p (.lst vs')) F (ρ.set i (some (.lst xs'))) := by
  obtain ⟨p, vs, xs, e1, e2, e3, e4, e5⟩ := R.mutW hi
  rw [hy] at e2
  cases e2
  cases e4 with
  | lst e4 => exact ⟨p, _, _, e1, hy, e3, e4, fun vs' xs' h => e5 _ _ (.lst h)⟩
end
def fApp (i : Nat) (f : FE) : FS := fun ρ d => match ρ[i]? with | some (some (.lst xs)) => f ρ (fun a => xs.length < LN ∧ d.nx (ρ.set i (some (.lst (xs ++ [a]))))) d.x | _ => False
def fPop (i : Nat) : FS := fun ρ d => match ρ[i]? with | some (some (.lst xs)) => xs ≠ [] ∧ d.nx (ρ.set i (some (.lst xs.dropLast))) | _ => False
/-- name[e] = v -/
def fPut (i : Nat) (fi fv : FE) : FS := fun ρ d => fv ρ (fun a => fi ρ (fun k => match k, ρ[i]? with | .int k, some (some (.lst xs)) => (match ixN xs.length k with | some j => d.nx (ρ.set i (some (.lst (xs.set j a)))) | none => False) | _, _ => False) d.x) d.x
def fAugI (i : Nat) (h : Int → Int → Int) (f : FE) : FS := fun ρ d => match ρ[i]? with
  | some (some (.int x)) => f ρ (fun a => match a with | .int y => d.nx (ρ.set i (some (.int (h x y)))) | _ => False) d.x
  | _ => False
section
variable {X : Cx} {g : Gd} {E : XK} {kd : Bool} {mb m : List Nat} {e e2 : Expr} {fe fe2 : FE} {pos p apos cpos : Pos}
theorem ds_app {i : Nat} {o : Expr} (ho : PE X o (tVar i)) (hm : m.contains i = true) (h : DE X g E m e fe) (hs : swapsWith (.Call (.Attribute o "append" apos) [e] [] cpos) none pos.line X.env = pure false := by rfl)
    (hbase : attributeBase o "append" X.env (eval o X.env) = eval o X.env := by rfl)
    (hfew : ((backTo cpos (starEach [e] X.env)).all (fun x => !x.1) && (backToKw cpos (keywordEach [] X.env)).all (fun x => x.1.isSome) && decide (([e] : List Expr).length + ([] : List Keyword).length + (if ([] : List Keyword).isEmpty then 0 else 1) < 30)) = true := by rfl)
    (hline : (apos.endLine == cpos.line) = true := by rfl) (hst : starEach [e] X.env = (false, eval e X.env) :: starEach [] X.env := by rfl) (hplain : (backTo cpos (starEach ([] : List Expr) X.env)).any (·.1) = false := by rfl) :
    DS X g E kd mb m m (.Expr (.Call (.Attribute o "append" apos) [e] [] cpos) pos) (fApp i fe) :=
  PSimp (ps_expr (pe_bm PySem.F.plainAttrs_list PySem.F.slot_list_append PySem.F.type_list_append mt_append ho (pa_cons h pa_nil hst) hbase hfew hline hst hplain) hs) fun D σ H ⟨H0, F0, F, ρ, d, R, hf, h1, h2, h3, h4, h5⟩ => by
  unfold fApp at hf
  split at hf
  rotate_left
  · exact hf.elim
  rename_i ys ey
  obtain ⟨p0, vs0, xs0, s1, s2, s3, _⟩ := R.mut (i := i) (by simpa using hm) ey
  refine ⟨_, s1, .inl ⟨rfl, vs0, .inl (.inl s3)⟩, H0, F0, F, ρ, _, d.x, R, hf, fun v H1 F1 a r is hd => ?_, h5.step R.fr⟩
  obtain ⟨p, vs, xs, q1, q2, q3, q4, q5⟩ := (R.step r).mut (i := i) (by simpa using hm) ey
  rw [s1] at q1
  cases q1
  rw [ey] at q2
  cases q2
  exact ⟨_, vs, v, rfl, rfl, q3, LN_lt (by rw [q4.length]; exact Nat.le_of_lt hd.1), h1 σ _ F1 _ (q5 _ _ (q4.append (.cons is .nil))) r.f0 hd.2⟩
theorem ds_pop {i : Nat} {o : Expr} (ho : PE X o (tVar i)) (hm : m.contains i = true) (hs : swapsWith (.Call (.Attribute o "pop" apos) [] [] cpos) none pos.line X.env = pure false := by rfl)
    (hbase : attributeBase o "pop" X.env (eval o X.env) = eval o X.env := by rfl) (hline : (apos.endLine == cpos.line) = true := by rfl) :
    DS X g E kd mb m m (.Expr (.Call (.Attribute o "pop" apos) [] [] cpos) pos) (fPop i) :=
  PSimp (ps_expr (pe_bm0 PySem.F.plainAttrs_list PySem.F.slot_list_pop PySem.F.type_list_pop mt_pop ho hbase hline) hs) fun D σ H ⟨H0, F0, F, ρ, d, R, hf, h1, h2, h3, h4, h5⟩ => by
  unfold fPop at hf
  split at hf
  rotate_left
  · exact hf.elim
  rename_i ys ey
  obtain ⟨p, vs, xs, q1, q2, q3, q4, q5⟩ := R.mut (i := i) (by simpa using hm) ey
  rw [ey] at q2
  cases q2
  obtain ⟨hne, hn⟩ := hf
  have hl := q4.length
  have pos : 0 < ys.length := List.length_pos_iff.mpr hne
  obtain ⟨y, hy⟩ : ∃ y, vs[vs.length - 1]? = some y := ⟨_, List.getElem?_eq_getElem (by omega)⟩
  have drop : IsAll X.K F vs.dropLast ys.dropLast := by
    rw [List.dropLast_eq_take, List.dropLast_eq_take, hl]
    exact q4.take _
  exact ⟨_, q1, .inl ⟨rfl, vs, .inl (.inl q3)⟩, _, vs, y, rfl, rfl, q3, hy, h1 σ _ F _ (q5 _ _ drop) (Ex.refl _) hn⟩
theorem ds_put {i : Nat} {o : Expr} (ho : PE X o (tVar i)) (hm : m.contains i = true) (hi : DE X g E m e fe) (hv : DE X g E m e2 fe2)
    (hs : swapsWithSole [.Subscript o e p] e2 pos.line X.env = pure false := by rfl) (hw : swappedStores [.Subscript o e p] e2 X.env = pure none := by rfl) (h1 : (assignEach [.Subscript o e p] X.env).map (·.2) = [assign (.Subscript o e p) X.env] := by rfl)
    (ha : ∀ v, assign (.Subscript o e p) X.env v = (do
      let ov ← holding [v] (eval o X.env)
      let iv ← holding [v, ov] (eval e X.env)
      standAt p
      holding [v, ov, iv] (setItem ov iv v)
      release [v, ov, iv] []) := by intro _; rfl) : DS X g E kd mb m m (.Assign [.Subscript o e p] e2 pos) (fPut i fe fe2) :=
  PSimp (ps_asg hv (pg_sub ho hi set_list ha) hs hw h1) fun D σ H ⟨H0, F0, F, ρ, d, R, hf, n1, n2, n3, n4, n5⟩ => by
  refine ⟨H0, F0, F, ρ, _, d.x, R, hf, fun v H1 F1 a r is hd => ?_, n5.step R.fr⟩
  have R1 := R.step r
  obtain ⟨p0, vs0, xs0, s1, s2, s3, _⟩ := R1.mutW (i := i) (by simpa using hm)
  refine ⟨_, s1, H0, F0, F1, ρ, _, d.x, R1, hd, fun k H2 F2 kk r2 is2 hd2 => ?_, (n5.step R.fr).step r⟩
  split at hd2
  · rename_i kz xs2 e9
    obtain ⟨q, vs, xs, q1, q2, q3, q4, q5⟩ := (R1.step r2).mut (i := i) (by simpa using hm) e9
    rw [s1] at q1
    cases q1
    rw [e9] at q2
    cases q2
    cases is2
    split at hd2
    · rename_i j hj
      rw [← q4.length] at hj
      exact ⟨_, vs, _, j, rfl, rfl, q3, hj, n1 σ _ F2 _ (q5 _ _ (q4.set (is.up r2.f0) j)) (r.f0.trans r2.f0) hd2⟩
    · exact hd2.elim
  · exact hd2.elim
theorem ds_aug {i : Nat} {x : Str} {op : Operator} {h : Int → Int → Int} {ti : TIp} (hN : X.N.Nodup) (hi : X.N[i]? = some x) (hx : Loc X.env.scope x) (hop : PIp X op ti) (hti : ti = ipI h) (he : DE X g E m e fe) (hm : m.contains i = false := by rfl) (hf : X.fn x = true ∨ X.env.scope.names.lookup x = some .local := by first | exact .inl rfl | exact .inr rfl | assumption) :
    DS X g E kd mb m m (.AugAssign (.Name x p) op e pos) (fAugI i h fe) := PSimp (ps_aug hN hi hx he hop hf) fun D σ H ⟨H0, F0, F, ρ, d, R, hf, h1, h2, h3, h4, h5⟩ => by
  subst hti
  unfold fAugI at hf
  split at hf
  · rename_i z ez
    have hmi : i ∉ m := by simpa using hm
    obtain ⟨v, e1, is1⟩ := R.vals i _ ez hmi
    cases is1
    have il : i < ρ.length := (List.getElem?_eq_some_iff.mp ez).1
    refine ⟨_, e1, H0, F0, F, ρ, _, d.x, R, hf, fun w H1 F1 a r is hd => ?_, h5.step R.fr⟩
    split at hd
    · rename_i y
      cases is
      have R2 := (R.step r).set (i := i) (.int (h z y)) il
      have keep : m.filter (· ≠ i) = m := List.filter_eq_self.mpr fun j hj => by
        have : j ≠ i := fun q => hmi (by rw [← q]; exact hj)
        simpa using this
      rw [keep] at R2
      exact ⟨_, _, rfl, rfl, h1 _ H1 F1 _ R2 r.f0 hd⟩
    · exact hd.elim
  · exact hf.elim
/-- a module's tuple of plain constants -/
theorem conT {K : PySem.W.Frag} {mg : Str → Option Value} {x : Str} {ds : List He.Dv} {dds : List D} (hm : mg x = some (.ref (He.ga K x))) (c : He.tupB K x ds = true) (hd : ∀ F, IsAll K F (ds.map (He.Dv.v K)) dds) (hl : (ds.map (He.Dv.v K)).length ≠ 2 := by decide) : Con K mg x (.tup dds) :=
  ⟨.ref (He.ga K x), _, hm, rfl, fun F => .tup (.inr ⟨hl, by
    rcases He.tupB_ok c (fun _ => none) with (h | ⟨_, h⟩) | h
    · cases h
    · cases h
    · exact h⟩) (hd F)⟩
/-! ### all, any -/
def blsD : List D → Option (List Bool)
  | [] => some []
  | .bl b :: r => (blsD r).map (b :: ·)
  | _ => none
theorem blsD_ok {K : PySem.W.Frag} {F : Hp} : ∀ {ds : List D} {bs : List Bool} {vs : List V}, blsD ds = some bs → IsAll K F vs ds → vs = bs.map V.bl
  | [], bs, vs, h, i => by cases i; cases h; rfl
  | d :: r, bs, vs, h, i => by
    cases d <;> first | (cases h; done) | skip
    rename_i b
    cases i with
    | cons i1 i2 =>
      cases i1
      have h' : (blsD r).map (b :: ·) = some bs := h
      cases hr : blsD r with
      | none => rw [hr] at h'; cases h'
      | some cs =>
        rw [hr] at h'
        cases h'
        rw [blsD_ok hr i2] <;> rfl
def sAll : Sem1T := fun a q _ => match a with | .lst ds => (match blsD ds with | some bs => q (.bl (bs.all id)) | none => False) | _ => False
def sAny : Sem1T := fun a q _ => match a with | .lst ds => (match blsD ds with | some bs => q (.bl (bs.any id)) | none => False) | _ => False
theorem de_all (hc : X.calm = true) (hg : Gl X "all") (hm : X.mg "all" = none) (ha : DB X g E m e fe) (hb : bootBuiltins "all" = some (.builtin "all") := by decide +kernel) (h1 : starEach [e] X.env = (false, eval e X.env) :: starEach [] X.env := by rfl) : DE X g E m (.Call (.Name "all" p) [e] [] pos) (f1 sAll fe) :=
  de_1 (r := fun v H Q => rAll X.K [v] H Q) (pe_callB (cr_all hc) hg hm hb (pa_cons ha pa_nil h1) (he := h1)) fun g E H F v a q x Q r ia hs hq hx => by
  unfold sAll at hs
  split at hs
  · split at hs
    · rename_i bs hbs
      obtain ⟨l, ys, rfl, h1, h2⟩ := ia.lst' r.sub
      exact ⟨l, bs, rfl, by rw [← blsD_ok hbs h2]; exact h1, hq _ H F _ r (.bl _) hs⟩
    · exact hs.elim
  · exact hs.elim
theorem de_any (hc : X.calm = true) (hg : Gl X "any") (hm : X.mg "any" = none) (ha : DB X g E m e fe) (hb : bootBuiltins "any" = some (.builtin "any") := by decide +kernel) (h1 : starEach [e] X.env = (false, eval e X.env) :: starEach [] X.env := by rfl) : DE X g E m (.Call (.Name "any" p) [e] [] pos) (f1 sAny fe) :=
  de_1 (r := fun v H Q => rAny X.K [v] H Q) (pe_callB (cr_any hc) hg hm hb (pa_cons ha pa_nil h1) (he := h1)) fun g E H F v a q x Q r ia hs hq hx => by
  unfold sAny at hs
  split at hs
  · split at hs
    · rename_i bs hbs
      obtain ⟨l, ys, rfl, h1, h2⟩ := ia.lst' r.sub
      exact ⟨l, bs, rfl, by rw [← blsD_ok hbs h2]; exact h1, hq _ H F _ r (.bl _) hs⟩
    · exact hs.elim
  · exact hs.elim
end
end DL

/-! DL14: max of three; the deck of two arguments; the other deck. -/
namespace DL
open PySem PySem.Spec PyProof.Rows L2
def mxI (a b : Int) : Int := if a < b then b else a
theorem nuMax2_int (a b : Int) : nuMax2 (.int a) (.int b) = some (.int (mxI a b)) := by
  unfold mxI
  by_cases h : a < b
  · rw [if_pos h]
    show some (if decide (a < b) = true then V.int b else V.int a) = _
    rw [if_pos (decide_eq_true h)]
  · rw [if_neg h]
    show some (if decide (a < b) = true then V.int b else V.int a) = _
    rw [if_neg (by simpa using h)]
def fMax3 (fs : FA) : FE := fun ρ q x => fs ρ (fun ds => match ds with | [.int a, .int b, .int c] => q (.int (mxI (mxI a b) c)) | _ => False) x
theorem de_max3 {X : Cx} {g : Gd} {E : XK} {m : List Nat} {a b c : Expr} {fs : FA} {p pos : Pos} (hc : X.calm = true) (hg : Gl X "max") (hm : X.mg "max" = none) (ha : DA X g E m [a, b, c] fs) (hb : bootBuiltins "max" = some (.builtin "max") := by decide +kernel)
    (he : starEach [a, b, c] X.env = (false, eval a X.env) :: starEach [b, c] X.env := by rfl) (hpl : (backTo pos (starEach [b, c] X.env)).any (·.1) = false := by rfl) : DE X g E m (.Call (.Name "max" p) [a, b, c] [] pos) (fMax3 fs) :=
  PEimp (pe_callB (call_max3Nu hc) hg hm hb ha (he := he) (hpl := hpl)) fun σ H Q ⟨H0, F0, F, ρ, q, x, R, hf, hq, hx⟩ => by
  refine ⟨H0, F0, F, ρ, _, x, R, hf, fun vs H1 F1 ds r i hd => ?_, hx⟩
  split at hd
  · cases i with
    | cons i1 i =>
      cases i with
      | cons i2 i =>
        cases i with
        | cons i3 i =>
          cases i
          cases i1
          cases i2
          cases i3
          exact ⟨_, _, _, _, rfl, by unfold nuMax3; rw [nuMax2_int, Option.bind_some, nuMax2_int], hq _ H1 F1 _ r (.int _) hd⟩
  · exact hd.elim
/-! ### a deck made of the script and a number -/
def spDeck2 (K : PySem.W.Frag) (nm : Str) : Sp := fun vs H Q _ => ∃ (a : Addr) (ns : List Int) (z : Int), vs = [.ref a, .int z] ∧ (-(2 ^ 40) < z ∧ z < 2 ^ 40) ∧ SqL K H a (ns.map V.int) ∧ ns.length ≤ 63 ∧ ∀ H' d l, Ex H H' → H d = none → H l = none → DeckAt nm d l H' → Q (.ref d) H'
section
variable {P : Program} {w : World} {K : PySem.W.Frag} {mg : Str → Option Value} {base : Heap} {x qual nm : Str} {params : Arguments} {body0 body : List Stmt} {scope : Scope} {f : Addr} {fd : FuncData} {N : List Str} {k : Nat} {st0 : Stmt} {z : Int}
/-- as okLaw, the deck made of the script and z -/
theorem okLaw2 (F : FunD K x qual params body0 scope [] [] f fd) (S : FnScope N ["script"] scope) (hb : body0 = st0 :: body) (hN : 2 ≤ N.length) (hz : -(2 ^ 40) < z ∧ z < 2 ^ 40)
    (h0 : ∀ (cdv : Value) (A : Around) (outer : List Env) (s : Shared) (H : Hp) (E : XK), Room k (A.deeper (envOfC qual scope s.heap.objs.size f cdv)) → (A.deeper (envOfC qual scope s.heap.objs.size f cdv)).guards = some [] →
      PS (cxOf CX0 P w K mg base N qual scope f cdv A outer s H E).nox st0 (tAsg (tCall (spDeck2 K nm) [] E (tCons (tVar 0) (tCons (tC (.int z)) tNil))) (gName 1)))
    (hbody : ∀ (cdv : Value) (A : Around) (outer : List Env) (s : Shared) (H : Hp) (E : XK) (a d l : Addr), Room k (A.deeper (envOfC qual scope s.heap.objs.size f cdv)) → (A.deeper (envOfC qual scope s.heap.objs.size f cdv)).guards = some [] →
      ∃ m' fb, DSs (cxOf CX0 P w K mg base N qual scope f cdv A outer s H E).nox (some (nm, d, l)) E false [] [] m' body fb ∧ fb (lawStart N.length a d) lawEnds) :
    FnG P w K mg base CX0 (k + 1) f fd ["script"] (spLaw K) := by
  subst hb
  refine okRaw F S (fun vs H Q E ⟨a, ns, h, _⟩ => by rw [h]; rfl) fun cdv A outer s H vs Q E hr hG ⟨a, ns, hv, hS, hl, hq⟩ => ?_
  subst hv
  have hb2 := fun a d l => hbody cdv A outer s H E a d l hr hG
  let t2 : TS := fun D σ H1 => ∃ (d l : Addr) (m' : List Nat) (fb : FS), DSs (cxOf CX0 P w K mg base N qual scope f cdv A outer s H E).nox (some (nm, d, l)) E false [] [] m' body fb ∧ tS K (some (nm, d, l)) E false [] [] m' fb D σ H1
  refine ⟨tSeq (tAsg (tCall (spDeck2 K nm) [] E (tCons (tVar 0) (tCons (tC (.int z)) tNil))) (gName 1)) t2, PSs.nox (pss_cons (h0 cdv A outer s H E hr hG) ⟨fun pins s' σ H' D I q => ?_⟩), ?_⟩
  · obtain ⟨d, l, m', fb, h1, h2⟩ := q
    exact h1.run pins s' σ H' D I h2
  · have hs : L2.start N [V.ref a] = some (.ref a) :: List.replicate (N.length - 1) none := rfl
    refine ⟨.ref a, by rw [hs]; rfl, a, ns, z, rfl, hz, hS, hl, fun H' d l ex nd nl j => ?_⟩
    obtain ⟨m', fb, h1, h2⟩ := hb2 a d l
    refine ⟨d, l, m', fb, h1, H', _, _, lawStart N.length a d, lawEnds, ⟨Fr.first j, ?_, ?_, fun _ => 0, fun i hi => (by cases hi), fun i hi => (by cases hi)⟩, h2, fun _ _ _ _ _ _ z => z.elim, fun _ _ _ _ _ _ z => z.elim, fun _ _ _ _ _ _ z => z.elim, ?_, XE.none⟩
    · rw [hs, List.length_set, List.length_cons, List.length_cons, List.length_cons, List.length_replicate, List.length_replicate]
      omega
    · intro i b hi _
      match i, hi with
      | 0, hi => cases hi; exact ⟨.ref a, by rw [hs]; rfl, .ref a⟩
      | 1, hi =>
        cases hi
        exact ⟨.ref d, List.getElem?_set_self (by rw [hs, List.length_cons, List.length_replicate]; omega), .ref d⟩
      | i + 2, hi =>
        have : (List.replicate (N.length - 2) (none : Option D))[i]? = some (some b) := hi
        rw [List.getElem?_replicate] at this
        split at this <;> cases this
    · intro v H2 F2 r _ hi hr
      have hr : r = .bl true := hr
      subst hr
      have hi : Is K F2 v (.bl true) := hi
      cases hi
      exact hq H2
end
end DL

/-! DL15: what is walked is a tuple or a list; comprehensions without draws; loops over images. -/
namespace DL
open PySem PySem.Spec PyProof.Rows L2
def iSeq (K : PySem.W.Frag) (te : TE) : TI := fun σ H R => te σ H fun x H1 => (∃ a xs, x = .ref a ∧ SqL K H1 a xs ∧ R (Itl K a) H1) ∨ (∃ a xs, x = .ref a ∧ SqT K H1 a xs ∧ R (Itt K a) H1)
section
variable {X : Cx} {tg : Expr}
theorem pi_seq {l : Expr} {tl : TE} (hl : PE X l tl) : PI X tg l (iSeq X.K tl) := by
  refine ⟨fun pins s σ H R I h => ?_⟩
  refine thn (hl.run pins s σ H _ I h) fun v s1 ⟨x, H1, I1, r1, q1⟩ => ?_
  rcases q1 with ⟨a, xs, e, hq, q⟩ | ⟨a, xs, e, hq, q⟩
  · subst e
    cases r1
    obtain ⟨its, rv, p, hz⟩ := I1.list hq
    refine wpAny_pyIter_list p.isList ?_
    refine ⟨s1.heap.objs.size, [s1.heap.objs.size], _, _, H1, rfl, I1.kept (t' := s1.toks) fun b o e => Heap.get?_push_of_some _ e, turn_list a _, ⟨_, Heap.get?_push_size _ rfl, rfl, rfl⟩, fun b hb => ?_, q⟩
    have e : b = s1.heap.objs.size := by simpa using hb
    subst e
    exact I1.fpOk (Nat.le_refl _) (I1.hok.fresh (Nat.le_refl _))
  · subst e
    cases r1
    obtain ⟨its, rv, p, hz⟩ := I1.tuple hq
    refine wpAny_pyIter_tuple (show s1.heap.IsTuple a its.toArray from p) ?_
    refine ⟨s1.heap.objs.size, [s1.heap.objs.size], _, _, H1, rfl, I1.kept (t' := s1.toks) fun b o e => Heap.get?_push_of_some _ e, turn_tuple a _, ⟨_, Heap.get?_push_size _ rfl, rfl, rfl⟩, fun b hb => ?_, q⟩
    have e : b = s1.heap.objs.size := by simpa using hb
    subst e
    exact I1.fpOk (Nat.le_refl _) (I1.hok.fresh (Nat.le_refl _))
def fIt (f : FE) : FI := fun ρ q x => f ρ (fun d => match d with | .lst xs => q xs | .tup xs => q xs | _ => False) x
theorem di_seq {g : Gd} {E : XK} {m : List Nat} {a : Expr} {fa : FE} (h : DE X g E m a fa) : DI X g E m tg a (fIt fa) := PIimp (pi_seq h) fun σ H R ⟨H0, F0, F, ρ, q, x, Rl, hf, hq, hx⟩ =>
  ⟨H0, F0, F, ρ, _, x, Rl, hf, fun v H' F' d r i hd => by
    split at hd
    · cases i with
      | lst h1 h2 => exact .inl ⟨_, _, rfl, .inl (.inl ((Rl.step r).fr.sub _ _ h1)), hq _ H' F' _ r (yl_list h1 h2) hd⟩
    · cases i with
      | tup h1 h2 => exact .inr ⟨_, _, rfl, (Rl.step r).fr.sub.sqT h1.sqT, hq _ H' F' _ r (yl_tup h1.sqT h2) hd⟩
    · exact hd.elim, hx⟩
end
/-! ### a, b, .. = a tuple or a list -/
theorem pg_or {X : Cx} {e : Expr} {t t' : TG} (h : PG X e t) (h' : PG X e t') : PG X e (fun v σ H Q => t v σ H Q ∨ t' v σ H Q) := ⟨fun pins s σ H v u Q I r q => q.elim (h.run pins s σ H v u Q I r) (h'.run pins s σ H v u Q I r)⟩
def fGseq (n : Nat) (fs : FGs) : FG := fun d ρ q => match d with | .tup ds => ds.length = n ∧ fs ds ρ q | .lst ds => ds.length = n ∧ fs ds ρ q | _ => False
theorem dg_seq {X : Cx} {g : Gd} {m m1 : List Nat} {es : List Expr} {fs : FGs} {pos : Pos} {k n : Nat} (hc : X.calm = true) (h : DGs X g m m1 es fs) (hn : (assignEach es X.env).length = n := by rfl) (hst : (assignEach es X.env).findIdx? (·.1) = none := by rfl) : DG X g m m1 (.Tuple es k pos) (fGseq n fs) :=
  PGimp (pg_or (pg_tup hc h hn hst) (pg_lst hc h hn hst)) fun v σ H Q ⟨H0, F0, F, ρ, d, q, R, is, hf, hq⟩ => by
  unfold fGseq at hf
  split at hf
  · cases is with
    | tup h1 h2 => exact .inl ⟨_, _, rfl, R.fr.sub.sqT h1.sqT, by rw [h2.length]; exact hf.1, H0, F0, F, ρ, _, q, R, h2, hf.2, hq⟩
  · cases is with
    | lst h1 h2 => exact .inr ⟨_, _, rfl, .inl (.inl (R.fr.sub _ _ h1)), by rw [h2.length]; exact hf.1, H0, F0, F, ρ, _, q, R, h2, hf.2, hq⟩
  · exact hf.elim
/-! comprehensions without draws -/
theorem lc_map {t : FG} {fe : FE} {vs : List Nat} {ρ : Ro} {q : D → Prop} {x : XD} (v : D → D) : ∀ (ds acc : List D), (∀ a ∈ ds, ∀ q' : D → Prop, q' (v a) → t a (wipeD ρ vs) fun ρ1 => fe ρ1 q' x) → acc.length + ds.length ≤ LN → q (.lst (acc ++ ds.map v)) → lcL t fYes fe vs ρ q x ds acc
  | [], acc, _, _, h => by rw [List.map_nil, List.append_nil] at h; exact h
  | a :: ds, acc, hs, hl, h => by
    rw [List.length_cons] at hl
    refine hs a (List.mem_cons_self ..) _ ⟨by omega, lc_map v ds (acc ++ [v a]) (fun b hb => hs b (List.mem_cons_of_mem _ hb)) (by rw [List.length_append, List.length_singleton]; omega) ?_⟩
    rw [List.append_assoc]; exact h
theorem lc_filter {t : FG} {tt : FT} {fe : FE} {vs : List Nat} {ρ : Ro} {q : D → Prop} {x : XD} (p : D → Bool) (v : D → D) : ∀ (ds acc : List D),
    (∀ a ∈ ds, ∀ nx : Bool → Ro → Prop, (∀ ρ1, (∀ q' : D → Prop, q' (v a) → fe ρ1 q' x) → nx (p a) ρ1) → t a (wipeD ρ vs) fun ρ1 => tt ρ1 (fun b => nx b ρ1) x) → acc.length + ds.length ≤ LN → q (.lst (acc ++ (ds.filter p).map v)) → lcL t tt fe vs ρ q x ds acc
  | [], acc, _, _, h => by rw [List.filter_nil, List.map_nil, List.append_nil] at h; exact h
  | a :: ds, acc, hs, hl, h => by
    rw [List.length_cons] at hl
    refine hs a (List.mem_cons_self ..) (fun b ρ1 => if b = true then fe ρ1 (fun d => acc.length < LN ∧ lcL t tt fe vs ρ q x ds (acc ++ [d])) x else lcL t tt fe vs ρ q x ds acc) fun ρ1 h1 => ?_
    by_cases hp : p a = true
    · rw [List.filter_cons_of_pos hp, List.map_cons] at h
      rw [hp, if_pos rfl]
      refine h1 _ ⟨by omega, lc_filter p v ds (acc ++ [v a]) (fun b hb => hs b (List.mem_cons_of_mem _ hb)) (by rw [List.length_append, List.length_singleton]; omega) ?_⟩
      rw [List.append_assoc]; exact h
    · rw [List.filter_cons_of_neg hp] at h
      have hp' : p a = false := by simpa using hp
      rw [hp', if_neg Bool.false_ne_true]
      exact lc_filter p v ds acc (fun b hb => hs b (List.mem_cons_of_mem _ hb)) (by omega) h
theorem lc_mapA {α : Type} {t : FG} {fe : FE} {vs : List Nat} {ρ : Ro} {q : D → Prop} {x : XD} (f v : α → D) : ∀ (l : List α) (acc : List D), (∀ a ∈ l, ∀ q' : D → Prop, q' (v a) → t (f a) (wipeD ρ vs) fun ρ1 => fe ρ1 q' x) → acc.length + l.length ≤ LN → q (.lst (acc ++ l.map v)) → lcL t fYes fe vs ρ q x (l.map f) acc
  | [], acc, _, _, h => by rw [List.map_nil, List.append_nil] at h; exact h
  | a :: ds, acc, hs, hl, h => by
    rw [List.length_cons] at hl
    refine hs a (List.mem_cons_self ..) _ ⟨by omega, lc_mapA f v ds (acc ++ [v a]) (fun b hb => hs b (List.mem_cons_of_mem _ hb)) (by rw [List.length_append, List.length_singleton]; omega) ?_⟩
    rw [List.append_assoc]; exact h
/-- with a bound predicate on what is gathered (draws) -/
theorem lc_all {α : Type} {t : FG} {fe : FE} {vs : List Nat} {ρ : Ro} {q : D → Prop} {x : XD} {β : Type} (f : α → D) (g : β → D) (P : β → Prop) : ∀ (l : List α) (acc : List β), (∀ a ∈ l, ∀ q' : D → Prop, (∀ b, P b → q' (g b)) → t (f a) (wipeD ρ vs) fun ρ1 => fe ρ1 q' x) → acc.length + l.length ≤ LN → (∀ b ∈ acc, P b) →
    (∀ r : List β, r.length = acc.length + l.length → (∀ b ∈ r, P b) → q (.lst (r.map g))) → lcL t fYes fe vs ρ q x (l.map f) (acc.map g)
  | [], acc, _, _, ha, h => h acc rfl ha
  | a :: ds, acc, hs, hl, ha, h => by
    rw [List.length_cons] at hl
    refine hs a (List.mem_cons_self ..) _ fun b hb => ⟨by rw [List.length_map]; omega, ?_⟩
    have := lc_all f g P ds (acc ++ [b]) (fun c hc => hs c (List.mem_cons_of_mem _ hc)) (by rw [List.length_append, List.length_singleton]; omega) (fun c hc => by
      rcases List.mem_append.mp hc with h1 | h1
      · exact ha c h1
      · rw [List.mem_singleton] at h1; rw [h1]; exact hb) fun r h1 h2 => h r (by rw [h1, List.length_append, List.length_singleton, List.length_cons]; omega) h2
    rw [List.map_append] at this
    exact this
theorem blsD_map : ∀ l : List Bool, blsD (l.map D.bl) = some l
  | [] => rfl
  | b :: l => by show (blsD (l.map D.bl)).map (b :: ·) = _; rw [blsD_map l]; rfl
theorem all_bl (q : D → Prop) (x : XD) (l : List Bool) : sAll (.lst (l.map D.bl)) q x = q (.bl (l.all id)) := by unfold sAll; simp only [blsD_map]
/-- all of a comprehension of truths -/
theorem all_true (q : D → Prop) (x : XD) {α : Type} (l : List α) (h : q (.bl true)) : sAll (.lst (l.map fun _ => D.bl true)) q x := by
  have e : (l.map fun _ => D.bl true) = (l.map fun _ => true).map D.bl := by rw [List.map_map]; rfl
  rw [e, all_bl]
  have : (l.map fun _ => true).all id = true := by simp
  rw [this]; exact h
theorem forL_map {α : Type} {t : FG} {b : FS} {d : DEnds} {f : α → D} (I : List α → Ro → Prop) (h0 : ∀ ρ, I [] ρ → d.nx ρ)
    (h1 : ∀ a r ρ, I (a :: r) ρ → ∀ nx : Ro → Prop, (∀ ρ', I r ρ' → nx ρ') → t (f a) ρ fun ρ1 => b ρ1 { d with nx := nx, ct := nx, bk := d.nx }) : ∀ (l : List α) (ρ : Ro), I l ρ → forL t b d (l.map f) ρ
  | [], ρ, h => h0 ρ h
  | a :: r, ρ, h => h1 a r ρ h _ fun ρ' h' => forL_map I h0 h1 r ρ' h'
end DL

/-! DL16: own classes of errors over Exception, with one attribute; raise. -/
namespace DL
open PySem PySem.Spec PyProof.Rows L2 Builtin Builtin.ObjectAttr
abbrev bmE : List Value := [.type "Exception", .type "BaseException", .type "object"]
/-- what the written part says of an own class of errors -/
structure ErrC (K : PySem.W.Frag) (C : Addr) : Prop where
  init : PySem.W.excInitIn K C bmE "Exception.__new__" = true
  over : PySem.W.excOver K C bmE = true
  no : PySem.W.findIn K (.ref C) "thing" = some none
  sa : PySem.W.findIn K (.ref C) "__setattr__" = some (some (.builtin "object.__setattr__"))
  hd : PySem.W.hasDictIn K C = true
  ex : PySem.W.subIn K (.ref C) (.type "BaseException") = some true
  ty : PySem.W.typeIn K (.ref C) = some (.type "type")
  kp : PySem.W.keepIn K (.ref C) = true
theorem ErrC.taker {K : PySem.W.Frag} {C : Addr} (T : ErrC K C) : PySem.W.takerIn K C "thing" = some none := by unfold PySem.W.takerIn; rw [T.no]; rfl
section
variable {X : Cx} {pins : List (Addr × Obj)} {σ : L2.St} {H : Hp} {s : Shared} {a C : Addr} {y : V} {u : Value} {E : Value → Shared → Prop} {A : Around}
theorem two_upd {H : Hp} {a b : Addr} {o1 o2 o3 : HO} (h : b ≠ a) : upd (upd (upd H b o1) a o2) b o3 = upd (upd H b o3) a o2 := by
  funext c
  by_cases hb : c = b
  · subst hb; rw [upd_same, upd_ne h, upd_same]
  · rw [upd_ne hb]
    by_cases ha : c = a
    · subst ha; rw [upd_same, upd_same]
    · rw [upd_ne ha, upd_ne ha, upd_ne hb, upd_ne hb]
/-- self.thing = y, the error being made -/
theorem err_set {Q : Unit → Shared → Prop} (T : ErrC X.K C) (I : Inv X pins σ H s) (e : H a = some (exo a C none)) (ry : RelV y u)
    (h : ∀ dx s', H dx = none → dx ≠ a → Inv X pins σ (upd (upd H dx (exd dx [("thing", y)])) a (exo a C (some dx))) s' → Q () s') : wpAny (model X.prog X.w) A (setAttr (.ref a) "thing" u) Q E s := by
  obtain ⟨t1, ho⟩ := exo_at I.hok e
  obtain ⟨hp, g, d, t, os⟩ := s
  obtain ⟨cd, hc, hcd⟩ := PySem.W.any_some T.hd
  refine PySem.W.set_plain I.kIn (od := none) ⟨ho, rfl, rfl, trivial⟩ T.sa ?_
  refine PySem.W.osa_openX (od := none) PySem.F.store_Exception (s := ⟨hp, g, d, t + 1, os⟩) I.kIn ⟨ho, rfl, rfl, trivial⟩ T.over T.taker fun b => ?_
  have lc : PySem.W.Looks (model X.prog X.w) hp (classData C) cd := PySem.W.looks_clsIn I.kIn hc
  have sz : a ≠ hp.objs.size := Nat.ne_of_lt (Heap.lt_size ho)
  have J1 : Inv X pins σ (upd H hp.objs.size (exd hp.objs.size [])) ⟨hp.push { cls := .type "dict", data := .dict #[] }, g, d, t, os⟩ :=
    I.laid (t' := t) (fun _ _ z => Heap.get?_push_of_some _ z) (Nat.le_refl _) (exd_ok (Heap.Ns1.of_empty ⟨_, #[], _, Heap.get?_push_at rfl rfl, rfl, fun _ z => absurd z (by simp), fun _ => rfl⟩) fun _ => trivial)
  have e1 : upd H hp.objs.size (exd hp.objs.size []) a = some (exo a C none) := by rw [upd_ne sz]; exact e
  have ho1 : (hp.push { cls := .type "dict", data := .dict #[] }).get? a = _ := Heap.get?_push_of_some _ ho
  dsimp only
  unfold storeInOwnDict ownDictForStores
  obtain ⟨nm, bs, mro, ns, qn, hdc, sn, sb, ab, col, del⟩ := cd
  dsimp only at hcd
  subst hcd
  repeat (first
    | with_reducible refine lc.at ?_
    | with_reducible refine wpAny_loadPart_at ho ?_
    | with_reducible refine PySem.HandSPX.store_in_new ?_ fun h' tk' hn' hs => ?_
    | wp_step)
  · exact ⟨_, #[], _, (Heap.get?_update_ne _ _ _ _ sz.symm).trans (Heap.get?_push_at rfl rfl), rfl, fun _ z => absurd z (by simp), fun _ => rfl⟩
  · have J2 := J1.write (t' := t) (x := a) (e := a) (o := exo a C (some hp.objs.size)) (h' := ((hp.push { cls := .type "dict", data := .dict #[] }).update a fun o => { o with dict := some hp.objs.size })) (by rw [e1]; exact True.intro) (.inl rfl)
      (fun b o hb z => (Heap.get?_update_ne _ _ _ _ hb).trans z) ⟨_, Heap.get?_update_self _ ho1 rfl⟩ (exo_ok (Heap.get?_update_self _ ho1 rfl))
    have e2 : upd (upd H hp.objs.size (exd hp.objs.size [])) a (exo a C (some hp.objs.size)) hp.objs.size = some (exd hp.objs.size []) := by rw [upd_ne sz.symm, upd_same]
    have J3 := J2.write (t' := tk') (x := hp.objs.size) (e := hp.objs.size) (o := exd hp.objs.size [("thing", y)]) (h' := h') (by rw [e2]; exact True.intro) (.inl rfl) (fun b o hb z => (hs.2 b hb).trans z)
      (by obtain ⟨o, _, _, z, _⟩ := hn'; exact ⟨o, z⟩) (exd_ok hn' (relO_put (fs := []) ry fun g => True.intro))
    rw [two_upd sz.symm] at J3
    exact h hp.objs.size _ (I.hok.fresh (Nat.le_refl _)) sz.symm J3
end
/-! ### its __init__ -/
def metOf (st : Stmt) : Stmt := match st with
  | .ClassDef _ _ _ b .. => b.getD 0 (.Pass ⟨0, 0, 0, 0⟩)
  | _ => .Pass ⟨0, 0, 0, 0⟩
def spInit (K : PySem.W.Frag) : Sp := fun vs H Q _ => ∃ (a C : Addr) (v : V), vs = [.ref a, v] ∧ ErrC K C ∧ H a = some (exo a C none) ∧ ∀ dx, H dx = none → dx ≠ a → Q .non (upd (upd H dx (exd dx [("thing", v)])) a (exo a C (some dx)))
def tErr (K : PySem.W.Frag) : TS := fun D σ H => ∃ (a C : Addr) (v : V), σ[0]? = some (some (.ref a)) ∧ σ[1]? = some (some v) ∧ ErrC K C ∧ H a = some (exo a C none) ∧ ∀ dx, H dx = none → dx ≠ a → D.nx σ (upd (upd H dx (exd dx [("thing", v)])) a (exo a C (some dx)))
section
variable {X : Cx} {o e : Expr} {p' pos : Pos}
theorem ps_err (ho : PE X o (tVar 0)) (he : PE X e (tVar 1)) (hs : swapsWith e (some (.Attribute o "thing" p')) pos.line X.env = pure false := by rfl) : PS X (.Assign [.Attribute o "thing" p'] e pos) (tErr X.K) := by
  refine ⟨fun pins s σ H D I h => ?_⟩
  obtain ⟨a, C, v, e0, e1, T, ea, q⟩ := h
  refine plainObj_wpAny_Assign_Attribute (thn (he.run pins s σ H (fun w H1 => w = v ∧ H1 = H) I ⟨v, e1, rfl, rfl⟩) fun u s1 ⟨w, H1, I1, r1, ew, eH⟩ => ?_) hs
  subst ew eH
  refine thn (ho.run pins s1 σ H1 (fun w2 H2 => w2 = V.ref a ∧ H2 = H1) I1 ⟨.ref a, e0, rfl, rfl⟩) fun u2 s2 ⟨w2, H2, I2, r2, ew, eH⟩ => ?_
  subst ew eH
  obtain rfl : u2 = Value.ref a := r2
  exact err_set T I2 ea r1 fun dx s' n ne J => ⟨σ, _, J, q dx n ne⟩
end
section
variable {P : Program} {w : World} {K : PySem.W.Frag} {mg : Str → Option Value} {base : Heap} {f : Addr} {fd : FuncData} {qual x : Str} {params : Arguments} {scope : Scope} {p1 p2 p3 p4 : Pos}
theorem ok_init (F : FunD K x qual params [.Assign [.Attribute (.Name "self" p1) "thing" p2] (.Name "thing" p3) p4] scope [] [] f fd) (S : FnScope ["self", "thing"] ["self", "thing"] scope)
    (h0 : ∀ (cdv : Value) (A : Around) (outer : List Env) (s : Shared) (H : Hp) (E : XK), PE (cxOf CX0 P w K mg base ["self", "thing"] qual scope f cdv A outer s H E).nox (.Name "self" p1) (tVar 0) ∧ PE (cxOf CX0 P w K mg base ["self", "thing"] qual scope f cdv A outer s H E).nox (.Name "thing" p3) (tVar 1)) :
    FnG P w K mg base CX0 1 f fd ["self", "thing"] (spInit K) := by
  refine okRaw (k := 0) F S (fun vs H Q E ⟨a, C, v, h, _⟩ => by rw [h]; rfl) fun cdv A outer s H vs Q E hr hG ⟨a, C, v, hv, T, ea, q⟩ => ?_
  obtain ⟨h1, h2⟩ := h0 cdv A outer s H E
  subst hv
  refine ⟨_, pss_one (ps_err h1 h2), a, C, v, rfl, rfl, T, ea, fun dx n ne => q dx n ne⟩
end
/-! ### X(e), raised -/
/-- a class of errors as it is called: its name x, its __init__ -/
structure Mkr (P : Program) (w : World) (K : PySem.W.Frag) (mg : Str → Option Value) (base : Heap) (x : Str) : Prop where
  ex : ∃ (fI : Addr) (fd : FuncData), FnG P w K mg base CX0 1 fI fd ["self", "thing"] (spInit K) ∧ PySem.W.findIn K (.ref (He.ga K x)) "__init__" = some (some (.ref fI)) ∧ PySem.W.typeIn K (.ref fI) = some (.type "function") ∧ Binds K fd ["self", "thing"] [] ∧ mg x = some (.ref (He.ga K x))
  err : ErrC K (He.ga K x)
section
variable {X : Cx} {x : Str} {e : Expr} {te : TE} {p pos : Pos} {k : Nat}
theorem del_new {H : Hp} {a d : Addr} {o1 o2 o3 o4 : HO} (na : H a = none) (hda : d ≠ a) : upd (L2.del (upd (upd (upd H a o4) d o1) a o2) a) d o3 = upd H d o3 := by
  funext b
  by_cases hb : b = d
  · subst hb; rw [upd_same, upd_same]
  · rw [upd_ne hb, upd_ne hb]
    by_cases ha : b = a
    · subst ha; rw [del_same, na]
    · rw [del_ne ha, upd_ne ha, upd_ne hb, upd_ne ha]
theorem pmk_err (M : Mkr X.prog X.w X.K X.mg X.base x) (hr : Room (k + 1) X.A) (hk : 1 ≤ k) (hG : X.A.guards = some []) (hg : Gl X x) (he : PE X e te)
    (hs : starEach [e] X.env = (false, eval e X.env) :: starEach [] X.env := by rfl) (hdb : (x == ("__debug__" : Str)) = false := by decide) :
    PMk X (.Call (.Name x p) [e] [] pos) (fun σ H Q => te σ H fun v H1 => ∀ d, H1 d = none → Q (.ref (He.ga X.K x)) (some d) (upd H1 d (.xd [("thing", v)]))) := by
  obtain ⟨fI, fd, F1, iC, tI, hb, hm⟩ := M.ex
  have T := M.err
  intro pins s σ H Q I h
  refine wpAny_Call_Name_kw (ld_glob I hg hm ?_ hdb)
  let goal : List V → Hp → Prop := fun vs H1 => match vs with
    | [v] => ∀ d, H1 d = none → Q (.ref (He.ga X.K x)) (some d) (upd H1 d (.xd [("thing", v)]))
    | _ => False
  refine PySem.W.callWith_K (h₀ := X.base) I.ok.mod.kin T.kp (thn ((pa_cons he pa_nil hs).run pos pins s σ H goal I h) fun us s1 ⟨vs, H1, I1, r1, q⟩ => ⟨I1.kIn, ?_⟩) hs (by rfl)
  match vs, q with
  | [v], q =>
  have q : ∀ d, H1 d = none → Q (.ref (He.ga X.K x)) (some d) (upd H1 d (.xd [("thing", v)])) := q
  obtain ⟨hp, g, dr, tk, os⟩ := s1
  obtain ⟨nm, N', qn, bs, bm, hdct, sn, sub, ab, col, dd, k0, k1, k2, k3, k5, hC, hT⟩ := PySem.W.excInit_of I1.kIn T.init
  have gt : hp.objs.size ≤ hp.objs.size + 1 := Nat.le_succ _
  have fresh : H1 (hp.objs.size + 1) = none := I1.hok.fresh gt
  have keep : ∀ b o, hp.get? b = some o → ((hp.push (PySem.W.kdv_tup us)).push (PySem.HandSPX.excO (He.ga X.K x) hp.objs.size)).get? b = some o := fun b o z => Heap.get?_push_of_some _ (Heap.get?_push_of_some _ z)
  have there : ((hp.push (PySem.W.kdv_tup us)).push (PySem.HandSPX.excO (He.ga X.K x) hp.objs.size)).get? (hp.objs.size + 1) = some (PySem.HandSPX.excO (He.ga X.K x) hp.objs.size) := by heap_get
  have I2 := I1.laid (t' := tk) (a := hp.objs.size + 1) (o := exo (hp.objs.size + 1) (He.ga X.K x) none) keep gt (exo_ok there)
  have nus : us.length = 1 := (Paired.length r1).symm
  have tie : Vals [V.ref (hp.objs.size + 1), v] (Value.ref (hp.objs.size + 1) :: us) := .cons rfl r1
  have bnd := hb _ (Value.ref (hp.objs.size + 1) :: us) I2.kIn (by rw [List.append_nil, List.length_cons, nus]; rfl)
  rw [List.append_nil] at bnd
  show wpAny _ _ (call (.ref (He.ga X.K x)) us) _ _ _
  refine wpAny_call (PySem.HandSPX.call_own PySem.F.excBase_Exception hT hC (PySem.W.looks_findIn I1.kIn iC) (fun self => PySem.W.bind_fn I1.kIn self tI) (by rw [nus, sizeLine_eq]; omega) ?_)
  refine codeAny_mono (F1.run _ X.stack _ _ ⟨Value.ref (hp.objs.size + 1) :: us, []⟩ _ _ (fun u H2 => u = .non ∧ ∃ dx, H1 dx = none ∧ dx ≠ hp.objs.size + 1 ∧ H2 = upd (upd (upd H1 (hp.objs.size + 1) (exo (hp.objs.size + 1) (He.ga X.K x) none)) dx (exd dx [("thing", v)])) (hp.objs.size + 1) (exo (hp.objs.size + 1) (He.ga X.K x) (some dx))) (fun _ _ _ => False)
    ((hr.mono (Nat.le_refl _)).make (He.ga X.K x) us [] |>.mono hk) hG (I2.env0.make (He.ga X.K x) us []) bnd tie ⟨_, _, _, rfl, T, upd_same, fun dx n ne => ⟨rfl, dx, by rw [upd_ne ne] at n; exact n, ne, rfl⟩⟩) fun r s' hq' => ?_
  cases r with
  | error er => exact hq'.elim
  | ok fl =>
    cases fl with
    | ret u =>
      obtain ⟨w2, H2, os2, bare2, un2, hok2, rv, ev, dx, n, ne, rfl⟩ := hq'
      subst ev
      obtain ⟨h2, g2, d2, t2, os'⟩ := s'
      refine ⟨rv, mk_end (raises_own T.ex T.ty) I1 gt keep un2 hok2 os2 bare2 upd_same (by rw [upd_ne ne, upd_same]) n ?_⟩
      rw [del_new fresh ne]
      exact q dx n
    | next => exact False.elim hq'
    | brk => exact False.elim hq'
    | cont => exact False.elim hq'
end
end DL

/-! DL17: raise, defs that raise and their calls, try .. except over data. -/
namespace DL
open PySem PySem.Spec PyProof.Rows L2
/-! ### raise -/
/-- E is taken in X -/
abbrev Tk (X : Cx) (E : XK) : Prop := L2.Takes X (fun c dx _ H => E c dx H)
def fRaise (n : Str) (f : FE) : FS := fun ρ d => f ρ (fun a => d.x n a) d.x
section
variable {X : Cx} {g : Gd} {E : XK} {k : Bool} {mb m m' : List Nat} {e : Expr} {fe : FE} {x : Str} {p pos pos' : Pos} {j : Nat}
theorem ds_raise (hc : X.calm = true) (tk : Tk X E) (M : Mkr X.prog X.w X.K X.mg X.base x) (hr : Room j X.A) (hG : X.A.guards = some []) (hg : Gl X x) (he : DE X g E m e fe) (hj : 2 ≤ j := by decide)
    (hs : starEach [e] X.env = (false, eval e X.env) :: starEach [] X.env := by rfl) (hdb : (x == ("__debug__" : Str)) = false := by decide) :
    DS X g E k mb m m' (.Raise (some (.Call (.Name x p) [e] [] pos)) none pos') (fRaise x fe) := by
  obtain ⟨i, rfl⟩ : ∃ i, j = i + 1 := ⟨j - 1, by omega⟩
  refine PSimp (L2.ps_raise hc tk (pmk_err M hr (by omega) hG hg he hs hdb)) fun D σ H ⟨H0, F0, F, ρ, d, R, hf, h1, h2, h3, h4, h5⟩ => ?_
  exact ⟨H0, F0, F, ρ, _, d.x, R, hf, fun v H1 F1 a r i hx dx nd => h5 x dx _ F1 v a ((R.fr.trans r).trans ((R.fr.trans r).newO nd)) (R.fr.back (r.back nd)) upd_same i hx, h5.step R.fr⟩
end
/-! ### a def that may raise -/
section
variable {P : Program} {w : World} {K : PySem.W.Frag} {mg : Str → Option Value} {base : Heap} {f : Addr} {fd : FuncData} {N ps : List Str} {k : Nat} {fn : Fn} {kd : Bool} {qual x : Str} {params : Arguments} {body : List Stmt} {scope : Scope} {dvs : List V}
theorem okNx (F : FunD K x qual params body scope dvs [] f fd) (S : FnScope N ps scope) (hl : ∀ ds q x, fn ds q x → ds.length = ps.length)
    (hbody : ∀ (cdv : Value) (A : Around) (outer : List Env) (s : Shared) (H : Hp) (E : XK), Room k (A.deeper (envOfC qual scope s.heap.objs.size f cdv)) → (A.deeper (envOfC qual scope s.heap.objs.size f cdv)).guards = some [] →
      Tk (cxOf (L2.CX P w) P w K mg base N qual scope f cdv A outer s H E) E → PassesOwn (model P w) (cxOf (L2.CX P w) P w K mg base N qual scope f cdv A outer s H E).A (cxOf (L2.CX P w) P w K mg base N qual scope f cdv A outer s H E).env (cxOf (L2.CX P w) P w K mg base N qual scope f cdv A outer s H E).xe →
      ∃ m' fb, DSs (cxOf (L2.CX P w) P w K mg base N qual scope f cdv A outer s H E) none E kd [] [] m' body fb ∧ ∀ ds q x, fn ds q x → fb (startD N.length ds) (entry kd q x)) :
    FnG P w K mg base (L2.CX P w) (k + 1) f fd ps (spN K kd fn) := by
  obtain ⟨oc, od, dV, kV, doc, pm, an, cdv, ct, osl, rfl, lk, hcd, _, _⟩ := F.ex
  refine fnG_of lk hcd S (fun vs H Q E ⟨F, ds, q, x, _, h, hf, _⟩ => by rw [h.length]; exact hl _ _ _ hf) fun A outer s H vs Q E hr hG ⟨F, ds, q, x, r, h, hf, hq, hx⟩ => ?_
  obtain ⟨m', fb, hd, hs⟩ := hbody cdv A outer s H E hr hG (takes_of rfl rfl rfl rfl) (passes_of rfl)
  refine ⟨_, hd, H, F, F, startD N.length ds, entry kd q x, start_rel r h, hs ds q x hf, fun σ' H' F' ρ' R _ hn => ?_, fun _ _ _ _ _ _ z => z.elim, fun _ _ _ _ _ _ z => z.elim, fun v H' F' d r2 i hd2 => hq v H' F' d r2 i hd2, hx⟩
  obtain ⟨rfl, hn⟩ := hn
  exact hq .non H' F' .non R.fr Is.non hn
end
/-- such a def as it is called -/
structure CalX (P : Program) (w : World) (K : PySem.W.Frag) (mg : Str → Option Value) (base : Heap) (k : Nat) (x : Str) (ps : List Str) (sp : Sp) (bs : List (List D)) (kbs : List (Nat × List Str × List Nat)) : Prop where
  ex : ∃ (f : Addr) (fd : FuncData), FnG P w K mg base (L2.CX P w) k f fd ps sp ∧ mg x = some (.ref f) ∧ PySem.W.keepIn K (.ref f) = true ∧
    (∀ dd ∈ bs, ∃ (dvs : List V) (dss : List Value), Binds K fd ps dss ∧ Vals dvs dss ∧ ∀ F, IsAll K F dvs dd) ∧ ∀ t ∈ kbs, KB K fd ps t.1 t.2.1 t.2.2
section
variable {X : Cx} {g : Gd} {E : XK} {m : List Nat} {j k : Nat} {ps : List Str} {fn : Fn} {dd : List D} {x : Str} {p pos : Pos} {e : Expr} {es : List Expr} {fs fk : FA} {kws : List Keyword} {bs : List (List D)} {kbs : List (Nat × List Str × List Nat)}
theorem passX (tk : Tk X E) : Passes (L2.CX X.prog X.w) X E := passes_call tk fun _ _ _ _ h => h
theorem calX_N (C : CalX X.prog X.w X.K X.mg X.base j x ps (spN X.K false fn) bs kbs) (tk : Tk X E) (hr : Room k X.A) (hG : X.A.guards = some []) (hg : Gl X x) (i : Nat) (ha : DA X g E m (e :: es) fs) (hb : bs[i]? = some dd := by rfl) (hj : j ≤ k := by decide)
    (hdb : (x == ("__debug__" : Str)) = false := by decide) (he : starEach (e :: es) X.env = (false, eval e X.env) :: starEach es X.env := by rfl) (hpl : (backTo pos (starEach es X.env)).any (·.1) = false := by rfl) :
    DE X g E m (.Call (.Name x p) (e :: es) [] pos) (fCall fn dd fs) := by
  obtain ⟨f, fd, h1, h2, h3, h4, _⟩ := C.ex
  obtain ⟨dvs, dss, b1, b2, b3⟩ := h4 dd (List.mem_of_getElem? hb)
  exact de_call (hr.mono hj) hG hg h2 h3 (passX tk) h1 b1 b2 b3 ha hdb he hpl
theorem calX_K (C : CalX X.prog X.w X.K X.mg X.base j x ps (spN X.K false fn) bs kbs) (tk : Tk X E) (hr : Room k X.A) (hG : X.A.guards = some []) (hg : Gl X x) (i n : Nat) (ks : List Str) (ix : List Nat) (ha : DA X g E m (e :: es) fs) (hkw : DK X g E m kws fk) (hb : kbs[i]? = some (n, ks, ix) := by rfl) (hj : j ≤ k := by decide)
    (hall : (backToKw pos (keywordEach kws X.env)).all (·.1.isSome) = true := by rfl) (hks : (backToKw pos (keywordEach kws X.env)).filterMap (·.1) = ks := by rfl)
    (hdb : (x == ("__debug__" : Str)) = false := by decide) (he : starEach (e :: es) X.env = (false, eval e X.env) :: starEach es X.env := by rfl)
    (hpl : ((backTo pos (starEach (e :: es) X.env)).any (·.1) || (backToKw pos (keywordEach kws X.env)).any (·.1.isNone)) = false := by rfl) :
    DE X g E m (.Call (.Name x p) (e :: es) kws pos) (fCallK fn n ks.length ix fs fk) := by
  obtain ⟨f, fd, h1, h2, h3, _, h5⟩ := C.ex
  exact de_callK (hr.mono hj) hG hg h2 h3 (passX tk) h1 (h5 _ (List.mem_of_getElem? hb)) ha hkw hall hks hdb he hpl
theorem calX_K0 (C : CalX X.prog X.w X.K X.mg X.base j x ps (spN X.K false fn) bs kbs) (tk : Tk X E) (hr : Room k X.A) (hG : X.A.guards = some []) (hg : Gl X x) (i : Nat) (ks : List Str) (ix : List Nat) (hkw : DK X g E m kws fk) (hb : kbs[i]? = some (0, ks, ix) := by rfl) (hj : j ≤ k := by decide)
    (hall : (backToKw pos (keywordEach kws X.env)).all (·.1.isSome) = true := by rfl) (hks : (backToKw pos (keywordEach kws X.env)).filterMap (·.1) = ks := by rfl)
    (hdb : (x == ("__debug__" : Str)) = false := by decide)
    (hpl : ((backTo pos (starEach [] X.env)).any (·.1) || (backToKw pos (keywordEach kws X.env)).any (·.1.isNone)) = false := by rfl) :
    DE X g E m (.Call (.Name x p) [] kws pos) (fCallK fn 0 ks.length ix fNil fk) := by
  obtain ⟨f, fd, h1, h2, h3, _, h5⟩ := C.ex
  exact de_callK0 (hr.mono hj) hG hg h2 h3 (passX tk) h1 (h5 _ (List.mem_of_getElem? hb)) hkw hall hks hdb hpl
end
/-! ### called where nothing is to be raised -/
def fCall0 (f : Fn) (dd : List D) (fs : FA) : FE := fun ρ q x => fs ρ (fun ds => f (ds ++ dd) q x0) x
def fCallK0 (f : Fn) (n nk : Nat) (ix : List Nat) (fs fk : FA) : FE := fun ρ q x => fs ρ (fun ds => fk ρ (fun es => ds.length = n ∧ es.length = nk ∧ f (pick ix (ds ++ es)) q x0) x) x
theorem takes0 {X : Cx} : L2.Takes X (fun _ _ _ _ => False) := fun _ _ ⟨_, _, _, _, _, _, _, _, _, _, _, _, _, _, _, _, w⟩ => w.elim
section
variable {X : Cx} {g : Gd} {E : XK} {m : List Nat} {j k : Nat} {ps : List Str} {fn : Fn} {dd : List D} {x : Str} {p pos : Pos} {e : Expr} {es : List Expr} {fs fk : FA} {kws : List Keyword} {bs : List (List D)} {kbs : List (Nat × List Str × List Nat)}
theorem calX0_N (C : CalX X.prog X.w X.K X.mg X.base j x ps (spN X.K false fn) bs kbs) (hr : Room k X.A) (hG : X.A.guards = some []) (hg : Gl X x) (i : Nat) (ha : DA X g E m (e :: es) fs) (hb : bs[i]? = some dd := by rfl) (hj : j ≤ k := by decide)
    (hdb : (x == ("__debug__" : Str)) = false := by decide) (he : starEach (e :: es) X.env = (false, eval e X.env) :: starEach es X.env := by rfl) (hpl : (backTo pos (starEach es X.env)).any (·.1) = false := by rfl) :
    DE X g E m (.Call (.Name x p) (e :: es) [] pos) (fCall0 fn dd fs) := by
  obtain ⟨f, fd, h1, h2, h3, h4, _⟩ := C.ex
  obtain ⟨dvs, dss, b1, b2, b3⟩ := h4 dd (List.mem_of_getElem? hb)
  refine PEimp (pe_callG h1 (hr.mono hj) hG hg h2 h3 b1 b2 (passX (E := fun _ _ _ => False) takes0) ha hdb he hpl) fun σ H Q ⟨H0, F0, F, ρ, q, x, R, hf, hq, hx⟩ => ?_
  refine ⟨H0, F0, F, ρ, _, x, R, hf, fun vs H1 F1 ds r1 i1 hs => ?_, hx⟩
  have R1 := R.step r1
  exact ⟨F1, ds ++ dd, q, x0, R1.fr.bare, i1.append (b3 F1), hs, fun v H' F' d r2 i2 hd2 => hq v H' F' d (r1.trans (R1.fr.lift r2)) i2 hd2, XE.none⟩
theorem calX0_K (C : CalX X.prog X.w X.K X.mg X.base j x ps (spN X.K false fn) bs kbs) (hr : Room k X.A) (hG : X.A.guards = some []) (hg : Gl X x) (i n : Nat) (ks : List Str) (ix : List Nat) (ha : DA X g E m (e :: es) fs) (hkw : DK X g E m kws fk) (hb : kbs[i]? = some (n, ks, ix) := by rfl) (hj : j ≤ k := by decide)
    (hall : (backToKw pos (keywordEach kws X.env)).all (·.1.isSome) = true := by rfl) (hks : (backToKw pos (keywordEach kws X.env)).filterMap (·.1) = ks := by rfl)
    (hdb : (x == ("__debug__" : Str)) = false := by decide) (he : starEach (e :: es) X.env = (false, eval e X.env) :: starEach es X.env := by rfl)
    (hpl : ((backTo pos (starEach (e :: es) X.env)).any (·.1) || (backToKw pos (keywordEach kws X.env)).any (·.1.isNone)) = false := by rfl) :
    DE X g E m (.Call (.Name x p) (e :: es) kws pos) (fCallK0 fn n ks.length ix fs fk) := by
  obtain ⟨f, fd, h1, h2, h3, _, h5⟩ := C.ex
  refine PEimp (pe_callGK h1 (hr.mono hj) hG hg h2 h3 (h5 _ (List.mem_of_getElem? hb)) (passX (E := fun _ _ _ => False) takes0) ha hkw hall hks hdb he hpl) fun σ H Q ⟨H0, F0, F, ρ, q, x, R, hf, hq, hx⟩ => ?_
  refine ⟨H0, F0, F, ρ, _, x, R, hf, fun vs H1 F1 ds r1 i1 hs => ⟨H0, F0, F1, ρ, _, x, R.step r1, hs, fun zs H2 F2 es r2 i2 hs2 => ?_, hx.step r1⟩, hx⟩
  obtain ⟨l1, l2, hs2⟩ := hs2
  have R2 := (R.step r1).step r2
  exact ⟨by rw [i1.length]; exact l1, by rw [i2.length]; exact l2, F2, pick ix (ds ++ es), q, x0, R2.fr.bare, pick_all ((i1.up r2.f0).append i2) ix, hs2, fun v H' F' d r3 i3 hd3 => hq v H' F' d (r1.trans (r2.trans (R2.fr.lift r3))) i3 hd3, XE.none⟩
theorem calX0_K0 (C : CalX X.prog X.w X.K X.mg X.base j x ps (spN X.K false fn) bs kbs) (hr : Room k X.A) (hG : X.A.guards = some []) (hg : Gl X x) (i : Nat) (ks : List Str) (ix : List Nat) (hkw : DK X g E m kws fk) (hb : kbs[i]? = some (0, ks, ix) := by rfl) (hj : j ≤ k := by decide)
    (hall : (backToKw pos (keywordEach kws X.env)).all (·.1.isSome) = true := by rfl) (hks : (backToKw pos (keywordEach kws X.env)).filterMap (·.1) = ks := by rfl)
    (hdb : (x == ("__debug__" : Str)) = false := by decide)
    (hpl : ((backTo pos (starEach [] X.env)).any (·.1) || (backToKw pos (keywordEach kws X.env)).any (·.1.isNone)) = false := by rfl) :
    DE X g E m (.Call (.Name x p) [] kws pos) (fCallK0 fn 0 ks.length ix fNil fk) := by
  obtain ⟨f, fd, h1, h2, h3, _, h5⟩ := C.ex
  refine PEimp (pe_callGK0 h1 (hr.mono hj) hG hg h2 h3 (h5 _ (List.mem_of_getElem? hb)) (passX (E := fun _ _ _ => False) takes0) hkw hall hks hdb hpl) fun σ H Q ⟨H0, F0, F, ρ, q, x, R, hf, hq, hx⟩ => ?_
  have hf : fk ρ (fun es => (0 : Nat) = 0 ∧ es.length = ks.length ∧ fn (pick ix ([] ++ es)) q x0) x := hf
  refine ⟨H0, F0, F, ρ, _, x, R, hf, fun zs H2 F2 es r2 i2 hs2 => ?_, hx⟩
  obtain ⟨_, l2, hs2⟩ := hs2
  have R2 := R.step r2
  exact ⟨rfl, by rw [i2.length]; exact l2, F2, pick ix ([] ++ es), q, x0, R2.fr.bare, pick_all (IsAll.append .nil i2) ix, hs2, fun v H' F' d r3 i3 hd3 => hq v H' F' d (r2.trans (R2.fr.lift r3)) i3 hd3, XE.none⟩
end
/-! ### an except suite that hands back -/
/-- the caught error's address a, its dict's dx, what it carries t; slot i is its name's -/
structure HIn (K : PySem.W.Frag) (g : Gd) (σ : L2.St) (H F : Hp) (i : Nat) (a dx : Addr) (t : D) : Prop where
  slot : σ[i]? = some (some (.ref a))
  fr : Fr g H F H F
  nM : ¬ g.M dx
  th : ∃ v, H dx = some (.xd [("thing", v)]) ∧ Is K F v t
theorem HIn.step {K : PySem.W.Frag} {g : Gd} {σ : L2.St} {H F H' F' : Hp} {i : Nat} {a dx : Addr} {t : D} (h : HIn K g σ H F i a dx t) (r : Fr g H F H' F') : HIn K g σ H' F' i a dx t :=
  ⟨h.slot, r.self, h.nM, by obtain ⟨v, e, q⟩ := h.th; exact ⟨v, r.pre _ _ h.nM e, q.up r.f0⟩⟩
def tH (K : PySem.W.Frag) (g : Gd) (i : Nat) (a dx : Addr) (t d : D) : TE := fun σ H Q => ∃ F, HIn K g σ H F i a dx t ∧ ∀ u H' F', Fr g H F H' F' → Is K F' u d → Q u H'
def tHs (K : PySem.W.Frag) (g : Gd) (i : Nat) (a dx : Addr) (t : D) (ds : List D) : TA := fun σ H Q => ∃ F, HIn K g σ H F i a dx t ∧ ∀ us H' F', Fr g H F H' F' → IsAll K F' us ds → Q us H'
/-- what a suite may ask of a class of errors -/
structure ErrX (K : PySem.W.Frag) (C : Addr) : Prop where
  xf : XfC K C
  no : PySem.W.findIn K (.ref C) "thing" = some none
  ko : ∀ (x : Addr) (ox : Obj) (od : Option Obj), PySem.W.KitX K (.ref x) (.ref C) (fun h => PySem.W.InstAt h x ox C od)
section
variable {X : Cx} {g : Gd} {i : Nat} {a dx C : Addr} {oe : Obj} {pn : List (Addr × Obj)} {e : Expr} {es : List Expr} {t d : D} {ds : List D} {pos p : Pos}
theorem he_k {v : V} (h : PE (X.suite a ((a, oe) :: pn)) e (tC v)) (hd : ∀ F, Is X.K F v d) : PE (X.suite a ((a, oe) :: pn)) e (tH X.K g i a dx t d) := PEimp h fun σ H Q ⟨F, I, q⟩ => q v H F I.fr (hd F)
theorem he_thing (T : ErrX X.K C) (hz : Zc (.ref C) (some dx) oe) (hf : ∃ vs, oe.data = .fields vs) (ho : PE (X.suite a ((a, oe) :: pn)) e (tVar i)) (hb : attributeBase e "thing" X.env (eval e X.env) = eval e X.env := by rfl) :
    PE (X.suite a ((a, oe) :: pn)) (.Attribute e "thing" pos) (tH X.K g i a dx t t) := PEimp (pe_xf T.xf T.no hz hf ho hb) fun σ H Q ⟨F, I, q⟩ => by
  obtain ⟨v, e1, e2⟩ := I.th
  exact ⟨.ref a, I.slot, rfl, rfl, dx, _, v, rfl, e1, rfl, q v H F I.fr e2⟩
theorem hes_nil : PA (X.suite a ((a, oe) :: pn)) [] (tHs X.K g i a dx t []) := PAimp pa_nil fun σ H Q ⟨F, I, q⟩ => q [] H F I.fr .nil
theorem hes_cons (h : PE (X.suite a ((a, oe) :: pn)) e (tH X.K g i a dx t d)) (h' : PA (X.suite a ((a, oe) :: pn)) es (tHs X.K g i a dx t ds)) (hs : starEach (e :: es) X.env = (false, eval e X.env) :: starEach es X.env := by rfl) :
    PA (X.suite a ((a, oe) :: pn)) (e :: es) (tHs X.K g i a dx t (d :: ds)) := PAimp (pa_cons h h' hs) fun σ H Q ⟨F, I, q⟩ =>
  ⟨F, I, fun u H1 F1 r1 i1 => ⟨F1, I.step r1, fun us H2 F2 r2 i2 => q (u :: us) H2 F2 (r1.trans r2) (.cons (i1.up r2.f0) i2)⟩⟩
theorem he_tup {j : Nat} (h : PA (X.suite a ((a, oe) :: pn)) es (tHs X.K g i a dx t ds)) (hl : ds.length ≤ LN := by exact Nat.le_of_ble_eq_true rfl) : PE (X.suite a ((a, oe) :: pn)) (.Tuple es j pos) (tH X.K g i a dx t (.tup ds)) := PEimp (pe_tup h) fun σ H Q ⟨F, I, q⟩ =>
  ⟨F, I, fun us H1 F1 r1 i1 => ⟨LN_line (by rw [i1.length]; exact hl), fun l nl => q _ _ (upd F1 l _) (r1.trans ((I.step r1).fr.new nl)) (.tup (.inl upd_same) (i1.up ((I.step r1).fr.new (o := .tup us) nl).f0))⟩⟩
theorem he_lst (h : PA (X.suite a ((a, oe) :: pn)) es (tHs X.K g i a dx t ds)) (hl : ds.length ≤ LN := by exact Nat.le_of_ble_eq_true rfl) : PE (X.suite a ((a, oe) :: pn)) (.List es pos) (tH X.K g i a dx t (.lst ds)) := PEimp (pe_lst h) fun σ H Q ⟨F, I, q⟩ =>
  ⟨F, I, fun us H1 F1 r1 i1 => ⟨LN_line (by rw [i1.length]; exact hl), fun l nl => q _ _ (upd F1 l _) (r1.trans ((I.step r1).fr.new nl)) (.lst upd_same (i1.up ((I.step r1).fr.new (o := .lst us) nl).f0))⟩⟩
end
section
variable {X : Cx} {g : Gd} {i : Nat} {a dx C C2 : Addr} {oe : Obj} {pn : List (Addr × Obj)} {e e2 : Expr} {t d : D} {pos p p2 : Pos} {b : Bool}
theorem call_isa (T : ErrX X.K C) (hz : Zc (.ref C) (some dx) oe) (hf : ∃ vs, oe.data = .fields vs) (hk : PySem.W.kitOne X.K (.ref C) (.ref C2) = some b) :
    CallR (X.suite a ((a, oe) :: pn)) (.builtin "isinstance") (fun xs H Q => xs = [.ref a, .ref C2] ∧ (∃ fs, H dx = some (.xd fs)) ∧ Q (.bl b) H) := by
  intro pins s σ H xs us Q I r h
  obtain ⟨rfl, ⟨fs, ex⟩, q⟩ := h
  obtain ⟨u1, r1, r'⟩ : ∃ u, RelV (.ref a) u ∧ ∃ r', us = u :: r' ∧ Vals [.ref C2] r' := by cases r with | cons h1 h2 => exact ⟨_, h1, _, rfl, h2⟩
  obtain ⟨l, rfl, r2⟩ := r'
  obtain ⟨u2, rfl, r3⟩ : ∃ u, l = [u] ∧ RelV (.ref C2) u := by cases r2 with | cons h1 h2 => cases h2; exact ⟨_, rfl, h1⟩
  obtain rfl : u1 = Value.ref a := r1
  obtain rfl : u2 = Value.ref C2 := r3
  obtain ⟨got, _⟩ := I.pin (a, oe) (List.mem_append_left _ List.mem_cons_self)
  obtain ⟨vs, hv⟩ := hf
  obtain ⟨mA, ns, _⟩ : ObjOk X.prog X.w H s.heap dx (.xd fs) := I.hok dx _ ex
  obtain ⟨od, ho, _⟩ := lookIn_ns ns
  have J : PySem.W.InstAt s.heap a oe C (some od) := ⟨got, hz.1, by unfold PySem.W.notCls; rw [hv] <;> rfl, by rw [hz.2]; exact ho⟩
  exact PySem.W.kia_one (T.ko a oe (some od)) I.kIn J hk (fun z => nomatch z) fun tk => ⟨.bl b, H, I.kept (t' := tk) fun _ _ z => z, rfl, q⟩
theorem he_isa (T : ErrX X.K C) (hz : Zc (.ref C) (some dx) oe) (hf : ∃ vs, oe.data = .fields vs) (hk : PySem.W.kitOne X.K (.ref C) (.ref C2) = some b) (hg : Gl (X.suite a ((a, oe) :: pn)) "isinstance") (hm : X.mg "isinstance" = none)
    (ho : PE (X.suite a ((a, oe) :: pn)) e (tVar i)) (hc : PE (X.suite a ((a, oe) :: pn)) e2 (tC (.ref C2))) (hb : bootBuiltins "isinstance" = some (.builtin "isinstance") := by decide +kernel)
    (h1 : starEach [e, e2] X.env = (false, eval e X.env) :: starEach [e2] X.env := by rfl) (h2 : starEach [e2] X.env = (false, eval e2 X.env) :: starEach [] X.env := by rfl) (hpl : (backTo pos (starEach [e2] X.env)).any (·.1) = false := by rfl) :
    PE (X.suite a ((a, oe) :: pn)) (.Call (.Name "isinstance" p) [e, e2] [] pos) (tH X.K g i a dx t (.bl b)) :=
  PEimp (pe_callB (X := X.suite a ((a, oe) :: pn)) (call_isa T hz hf hk) hg hm hb (pa_cons ho (pa_cons hc pa_nil h2) h1) (he := h1) (hpl := hpl)) fun σ H Q ⟨F, I, q⟩ => by
    obtain ⟨v, e1, _⟩ := I.th
    exact ⟨.ref a, I.slot, rfl, ⟨_, e1⟩, q _ H F I.fr (.bl b)⟩
theorem he_not (h : PE (X.suite a ((a, oe) :: pn)) e (tH X.K g i a dx t (.bl b))) : PE (X.suite a ((a, oe) :: pn)) (.UnaryOp .Not e pos) (tH X.K g i a dx t (.bl (!b))) := PEimp (pe_not h) fun σ H Q ⟨F, I, q⟩ =>
  ⟨F, I, fun u H1 F1 r1 i1 => by cases i1; exact ⟨b, rfl, q _ H1 F1 r1 (.bl _)⟩⟩
end
/-! ### several clauses, each with a name -/
/-- what the clauses wish of an error of the body -/
def wAses (K : PySem.W.Frag) (Wout : WX) (D : Ends) : List (Value × Nat × (Addr → Value → Option Addr → TS)) → WX
  | [] => Wout
  | (c, i, ts) :: r => fun cls d σ H => ∃ b, PySem.W.exmOne K cls c = some b ∧
      (b = true → ∀ a, H a = none → ts a cls d { nx := fun σ' H' => D.nx (σ'.set i none) H', rt := D.rt, bk := fun σ' H' => D.bk (σ'.set i none) H', ct := fun σ' H' => D.ct (σ'.set i none) H' } (σ.set i (some (.ref a))) H) ∧
      (b = false → wAses K Wout D r cls d σ H)
inductive HdsAs (X : Cx) : List ExceptHandler → List (Value × Nat × (Addr → Value → Option Addr → TS)) → Prop
  | nil : HdsAs X [] []
  | cons {x n : Str} {c : Value} {i : Nat} {ts : Addr → Value → Option Addr → TS} {b₀ : Stmt} {suite : List Stmt} {np pos' : Pos} {hds : List ExceptHandler} {l : List (Value × Nat × (Addr → Value → Option Addr → TS))} (hc : Names X x c) (hi : X.N[i]? = some n) (hln : X.env.kindOf n = some .local)
      (hsu : ∀ (a : Addr) (oe : Obj) (cls : Value) (d : Option Addr) (pn : List (Addr × Obj)), Zc cls d oe → (∃ vs, oe.data = .fields vs) → PSs (X.suite a ((a, oe) :: pn)) (b₀ :: suite) (ts a cls d)) (r : HdsAs X hds l) :
      HdsAs X (.ExceptHandler (some (.Name x np)) (some n) (b₀ :: suite) pos' :: hds) ((c, i, ts) :: l)
section
variable {X : Cx} {body : List Stmt} {h₀ : ExceptHandler} {hds : List ExceptHandler} {l : List (Value × Nat × (Addr → Value → Option Addr → TS))} {pos : Pos} {tb : WX → TS} {Wout : WX}
theorem ps_try_ases (hs : X.stack = X.env :: X.outer) (hf : X.env.frame = some X.env.locals) (hN : X.N.Nodup) (tk : L2.Takes X Wout)
    (hb : ∀ (W : WX) (pn : List (Addr × Obj)) (xe : Value → Shared → Prop), L2.Takes (X.tr pn xe) W → PassesOwn (model X.prog X.w) X.A X.env xe → PSs (X.tr pn xe) body (tb W))
    (hh : HdsAs X (h₀ :: hds) l) : PS X (.Try body (h₀ :: hds) [] [] pos) (fun D σ H => tb (wAses X.K Wout D l) D σ H) := by
  refine ⟨fun pins s σ H D I h => ?_⟩
  have ok := I.ok
  have frm : X.A.frames = some (X.env :: X.outer) := by rw [ok.frames, hs]
  refine wpAny_Try_except ?_
  have run := (hb (wAses X.K Wout D l) (X.pn ++ pins) (fun e s₁ => wpAny (model X.prog X.w) X.A (noteFrame e X.env) (fun _ s₂ => wpAny (model X.prog X.w) X.A (setFlight e none) (fun _ s₃ =>
    wpAny (model X.prog X.w) X.A (handleBy e X.env (h₀ :: hds)) (SP X pins D) X.xe s₃) X.xe s₂) X.xe s₁) (fun u s' xx => ?_) PassesOwn.looking).run [] s σ H D (I.toTry _) h
  · refine wpAny_mono run (fun f s1 hsp => ?_) (fun e s1 he => he)
    cases f with
    | next => obtain ⟨σ', H', J', q⟩ := hsp; exact wpAny_execs_nil ⟨σ', H', J'.ofTry ok, q⟩
    | brk => obtain ⟨σ', H', J', q⟩ := hsp; exact ⟨σ', H', J'.ofTry ok, q⟩
    | cont => obtain ⟨σ', H', J', q⟩ := hsp; exact ⟨σ', H', J'.ofTry ok, q⟩
    | ret u => obtain ⟨v, σ', H', J', r, q⟩ := hsp; exact ⟨v, σ', H', J'.ofTry ok, r, q⟩
  · obtain ⟨a, B, sI, pins', σ', H', cls, d, rfl, J', nb, up, sky, na, os, ag, w⟩ := xx
    have J : L2.Inv X pins σ' H' sI := J'.ofTry ok
    refine L2.Sky.land Zc.steady frm hf (show L2.Sky B (X.env :: X.outer) a (Zc cls d) X.env.locals s'.heap by rw [← hs]; exact sky) fun h3 fl3 up3 => ?_
    have up13 := up.trans up3
    obtain ⟨oe3, vs3, he3, hz3, hd3⟩ := fl3.there
    have off : ∀ {hh : Heap} {o : Obj} {vs : Array Value}, hh.FunFrames B (X.env :: X.outer) → hh.get? a = some o → o.data = .fields vs → a ∉ frs (X.env :: X.outer) := fun {hh o vs} ff e1 e2 hm => by
      obtain ⟨_, o', e', nf⟩ := ff.mem hm
      rw [e1] at e'
      cases e'
      exact nf _ e2
    have n1 := off fl3.2.2.1 he3 hd3
    have nL : a ≠ X.env.locals := fun z => n1 (List.mem_filterMap.mpr ⟨X.env, List.mem_cons_self, by rw [hf, z]⟩)
    have nF : a ∉ X.fs := fun hm => by
      obtain ⟨v, hv, q⟩ := List.mem_filterMap.mp hm
      exact n1 (List.mem_filterMap.mpr ⟨v, List.mem_cons_of_mem _ hv, q⟩)
    have J3 : L2.Inv X pins σ' H' { s' with heap := h3 } := J.landed nb fl3.1 up13 os ag
    have S3 := J3.suite he3 hd3 na nL nF
    have LT : PySem.W.Looks (model X.prog X.w) h3 (typeOf (.ref a)) cls := fun A Q E s k q => wpAny_typeOf_ref (k _ _ he3) (by rw [hz3.1]; exact q)
    have go : ∀ {hd' : List ExceptHandler} {l' : List (Value × Nat × (Addr → Value → Option Addr → TS))}, HdsAs X hd' l' → wAses X.K Wout D l' cls d σ' H' →
        wpAny (model X.prog X.w) X.A (handleBy (.ref a) X.env hd') (SP X pins D) X.xe { s' with heap := h3 } := by
      intro hd' l' hk
      induction hk with
      | nil =>
        intro w
        refine wpAny_handleBy_nil ?_
        obtain ⟨_, _, _, oe, vs, T, oT, ts', g1, _, g3, g4, _⟩ := id fl3
        unfold PySem.passOn
        refine wpAny_bind (wpAny_field g1 g3 g4 ?_)
        rw [if_neg (show ¬ ((Value.ref T == Value.none) = true) from by simp)]
        have out : wpAny (model X.prog X.w) X.A (setFlight (.ref a) X.env.frame) (fun _ s4 => wpAny (model X.prog X.w) X.A (throw (.ref a) : Sem Flow) (SP X pins D) X.xe s4) X.xe { s' with heap := h3 } := by
          rw [hf]
          exact HandSPX.setFlight_upZ fl3 fun h4 hh4 up4 => wpAny_throw (tk _ _ ⟨a, B, sI, pins, σ', H', cls, d, rfl, J, nb, up13.trans up4, .inr (.inr (by rw [hs]; exact hh4)), na, os, ag, w⟩)
        first
          | exact wpAny_bind (wpAny_pure (wpAny_bind out))
          | exact wpAny_bind out
      | @cons x n c i ts b₀ suite np pos' hds l hc hi hln hsu r ih =>
        intro w
        obtain ⟨b, hb1, yes, no⟩ := w
        refine wpAny_handleBy_cons (codeAny_handlers_test ?_) (by intro q; cases q)
        have LM := PySem.W.exm_one (M := model X.prog X.w) J3.kIn LT hb1
        have ask : ∀ {Q E : Value → Shared → Prop}, Q c { s' with heap := h3 } → wpAny (model X.prog X.w) (X.A.mark (some (.ref a))) (eval (.Name x np) X.env) Q E { s' with heap := h3 } := fun {Q E} q => by
          obtain ⟨c1, c2, c3 | ⟨c3, c4, c5⟩⟩ := hc
          · exact ld_glob (X := X.suite a ((a, oe3) :: (X.pn ++ pins))) S3 c1 c3 q c2
          · exact ld_blt (X := X.suite a ((a, oe3) :: (X.pn ++ pins))) S3 c1 c3 c4 q c5 c2
        refine ask (LM.here ?_)
        cases b with
        | false => exact ih (no rfl)
        | true =>
          refine codeAny_handlers_suite_as ?_
          refine HandSPX.lands_againZ fl3 fun h4 fl4 up4 => ?_
          have J4 : L2.Inv X pins σ' H' { s' with heap := h4 } := J.landed nb fl4.1 (up13.trans up4) os ag
          obtain ⟨oe4, vs4, he4, hz4, hd4⟩ := fl4.there
          refine store_ok (X := X.suite a ((a, oe4) :: (X.pn ++ pins))) (v := .ref a) (J4.suite he4 hd4 na nL nF) hN hi (.inl hln) rfl (fun s5 S5 => ?_) (.inr hln)
          refine wpAny_mono ((hsu a oe4 cls d (X.pn ++ pins) hz4 ⟨_, hd4⟩).run [] s5 _ H' _ S5 (yes rfl a na)) (fun f s6 hsp => ?_) (fun _ _ z => False.elim z)
          have close : ∀ {σ6 : L2.St} {H6 : Hp} {Q : Shared → Prop}, L2.Inv (X.suite a ((a, oe4) :: (X.pn ++ pins))) [] σ6 H6 s6 → (∀ s7, L2.Inv X pins (σ6.set i none) H6 s7 → Q s7) →
              wpAny (model X.prog X.w) X.A (do bindName X.env n .none; unbindBehindTheSuite X.env n pos') (fun _ s7 => Q s7) X.xe s6 := fun S6 hq => gone_ok (S6.unsuite ok) hN hi hln hq
          cases f with
          | next => obtain ⟨σ6, H6, S6, q6⟩ := hsp; exact close S6 fun s7 J7 => ⟨_, _, J7, q6⟩
          | brk => obtain ⟨σ6, H6, S6, q6⟩ := hsp; exact close S6 fun s7 J7 => ⟨_, _, J7, q6⟩
          | cont => obtain ⟨σ6, H6, S6, q6⟩ := hsp; exact close S6 fun s7 J7 => ⟨_, _, J7, q6⟩
          | ret u => obtain ⟨v6, σ6, H6, S6, r6, q6⟩ := hsp; exact close S6 fun s7 J7 => ⟨_, _, _, J7, r6, q6⟩
    exact go hh w
end
/-! ### try over data -/
/-- what the clauses hand back of an error n carrying t: (which classes, what) -/
def tryX (q : D → Prop) : List ((Str → Bool) × (Str → D → D)) → XD
  | [] => fun _ _ => False
  | (mt, hv) :: r => fun n t => if mt n = true then q (hv n t) else tryX q r n t
def fTry (errs : List Str) (b : FS) (l : List ((Str → Bool) × (Str → D → D))) : FS := fun ρ d => b ρ { d with x := fun n t => n ∈ errs ∧ tryX d.rt l n t }
inductive HC (X : Cx) (g : Gd) (errs : List Str) : List ExceptHandler → List ((Str → Bool) × (Str → D → D)) → Prop
  | nil : HC X g errs [] []
  | cons {x nm : Str} {C : Addr} {i : Nat} {e : Expr} {np rp pos' : Pos} {hds : List ExceptHandler} {mt : Str → Bool} {hv : Str → D → D} {l : List ((Str → Bool) × (Str → D → D))} (hc : Names X x (.ref C)) (hi : X.N[i]? = some nm) (hln : X.env.kindOf nm = some .local)
      (hm : ∀ n ∈ errs, PySem.W.exmOne X.K (.ref (He.ga X.K n)) (.ref C) = some (mt n))
      (he : ∀ n ∈ errs, ∀ (a dx : Addr) (oe : Obj) (pn : List (Addr × Obj)) (t : D), Zc (.ref (He.ga X.K n)) (some dx) oe → (∃ vs, oe.data = .fields vs) → PE (X.suite a ((a, oe) :: pn)) e (tH X.K g i a dx t (hv n t)))
      (r : HC X g errs hds l) : HC X g errs (.ExceptHandler (some (.Name x np)) (some nm) [.Return (some e) rp] pos' :: hds) ((mt, hv) :: l)
section
variable {X : Cx} {g : Gd} {errs : List Str} {hds : List ExceptHandler} {l : List ((Str → Bool) × (Str → D → D))}
/-- one suite's reading -/
def tsH (K : PySem.W.Frag) (g : Gd) (errs : List Str) (i : Nat) (hv : Str → D → D) (a : Addr) (cls : Value) (d : Option Addr) : TS := fun D σ H => ∃ (n : Str) (dx : Addr) (t : DL.D) (F : Hp), n ∈ errs ∧ cls = .ref (He.ga K n) ∧ d = some dx ∧ HIn K g σ H F i a dx t ∧ ∀ u H' F', Fr g H F H' F' → Is K F' u (hv n t) → D.rt u H'
theorem HC.as (h : HC X g errs hds l) : ∃ l', HdsAs X hds l' ∧ ∀ (D : Ends) (σ : L2.St) (H F : Hp) (n : Str) (dx : Addr) (v : V) (t : DL.D) (q : DL.D → Prop), σ.length = X.N.length → n ∈ errs → Fr g H F H F → ¬ g.M dx → H dx = some (.xd [("thing", v)]) → Is X.K F v t → tryX q l n t →
    (∀ u H' F' r, Fr g H F H' F' → Is X.K F' u r → q r → D.rt u H') → wAses X.K (fun _ _ _ _ => False) D l' (.ref (He.ga X.K n)) (some dx) σ H := by
  induction h with
  | nil => exact ⟨[], .nil, fun D σ H F n dx v t q _ _ _ _ _ _ z => z.elim⟩
  | @cons x nm C i e np rp pos' hds mt hv l hc hi hln hm he r ih =>
    obtain ⟨l', h1, h2⟩ := ih
    refine ⟨(.ref C, i, tsH X.K g errs i hv) :: l', .cons hc hi hln (fun a oe cls d pn hz hf => ?_) h1, fun D σ H F n dx v t q hl hn fr nM e1 e2 ht hq => ⟨mt n, hm n hn, fun hb a na => ?_, fun hb => ?_⟩⟩
    · refine pss_one ⟨fun pins s σ H D I q => ?_⟩
      obtain ⟨n, dx, t, F, hn, rfl, rfl, hI, hq⟩ := q
      exact (ps_ret (he n hn a dx oe pn t hz hf)).run pins s σ H D I ⟨F, hI, hq⟩
    · have hlt : i < σ.length := by rw [hl]; exact (List.getElem?_eq_some_iff.mp hi).1
      have ht : (if mt n = true then q (hv n t) else tryX q l n t) := ht
      rw [if_pos hb] at ht
      exact ⟨n, dx, t, F, hn, rfl, rfl, ⟨List.getElem?_set_self hlt, fr, nM, v, e1, e2⟩, fun u H' F' r is => hq u H' F' _ r is ht⟩
    · have ht : (if mt n = true then q (hv n t) else tryX q l n t) := ht
      rw [if_neg (by rw [hb]; exact Bool.false_ne_true)] at ht
      exact h2 D σ H F n dx v t q hl hn fr nM e1 e2 ht hq
variable {E : XK} {mb m m' : List Nat} {body : List Stmt} {h₀ : ExceptHandler} {fb : FS} {pos : Pos}
theorem ds_try (hs : X.stack = X.env :: X.outer) (hf : X.env.frame = some X.env.locals) (hN : X.N.Nodup)
    (hb : ∀ (E' : XK) (pn : List (Addr × Obj)) (xe : Value → Shared → Prop), Tk (X.tr pn xe) E' → PassesOwn (model X.prog X.w) X.A X.env xe → DSs (X.tr pn xe) g E' false mb m m' body fb)
    (hh : HC X g errs (h₀ :: hds) l) : DS X g E false mb m m' (.Try body (h₀ :: hds) [] [] pos) (fTry errs fb l) := by
  obtain ⟨l', h1, h2⟩ := hh.as
  refine PSimp (ps_try_ases (tb := fun W => fun D σ H => ∃ E' : XK, (∀ cls d σ' H', σ'.length = X.N.length → E' cls d H' → W cls d σ' H') ∧ tS X.K g E' false mb m m' fb D σ H) hs hf hN takes0 (fun W pn xe tk hp => ⟨fun pins s σ H D I ⟨E', q1, q2⟩ => ?_⟩) h1) fun D σ H ⟨H0, F0, F, ρ, d, R, hfb, k1, k2, k3, k4, k5⟩ => ?_
  · refine (hb E' pn xe (fun u s' ⟨a, B, sI, pins, σ, H, cls, d, e, I, nb, up, sky, na, os, ag, w⟩ => ?_) hp).run pins s σ H D I q2
    exact tk u s' ⟨a, B, sI, pins, σ, H, cls, d, e, I, nb, up, sky, na, os, ag, q1 cls d σ H I.len w⟩
  · refine ⟨fun cls dd H' => ∃ (n : Str) (dx : Addr) (F' : Hp) (v : V) (t : DL.D), cls = .ref (He.ga X.K n) ∧ dd = some dx ∧ Fr g H0 F0 H' F' ∧ H0 dx = none ∧ H' dx = some (.xd [("thing", v)]) ∧ Is X.K F' v t ∧ n ∈ errs ∧ tryX d.rt l n t, ?_, H0, F0, F, ρ, _, R, hfb, k1, k2, k3, k4, fun n dx H' F' v t r n0 e1 e2 hx => ⟨n, dx, F', v, t, rfl, rfl, r, n0, e1, e2, hx.1, hx.2⟩⟩
    rintro cls dd σ' H' hl ⟨n, dx, F', v, t, rfl, rfl, r, n0, e1, e2, hn, ht⟩
    exact h2 D σ' H' F' n dx v t d.rt hl hn r.self (fun z => (r.nm dx z).2 n0) e1 e2 ht fun u H2 F2 rr r2 is hq => k4 u H2 F2 rr (r.trans r2) is hq
end
end DL

/-! DL18: the classes of errors, told by the head. -/
namespace DL
open PySem PySem.Spec PyProof.Rows L2
/-- n is a c: all classes of errors stand right under StepError -/
def isErr (n c : Str) : Bool := decide (n = c) || decide (c = "StepError")
structure ErrF (K : PySem.W.Frag) (mg : Str → Option Value) (x : Str) : Prop where
  g : mg x = some (.ref (He.ga K x))
  c : ErrC K (He.ga K x)
  x : ErrX K (He.ga K x)
def errB (K : PySem.W.Frag) (C : Addr) : Bool :=
  PySem.W.excInitIn K C bmE "Exception.__new__" && (PySem.W.excOver K C bmE && (decide (PySem.W.findIn K (.ref C) "thing" = some none) && (decide (PySem.W.findIn K (.ref C) "__setattr__" = some (some (.builtin "object.__setattr__"))) && (PySem.W.hasDictIn K C && (decide (PySem.W.subIn K (.ref C) (.type "BaseException") = some true) && (decide (PySem.W.typeIn K (.ref C) = some (.type "type")) && (PySem.W.keepIn K (.ref C) &&
  (decide (PySem.W.findIn K (.ref C) "__getattribute__" = some (some (.builtin "BaseException.__getattribute__"))) && (decide (PySem.W.findIn K (.ref C) "__getattr__" = some none) && ((PySem.W.clsIn K C).isSome && (decide (PySem.W.findIn K (.ref C) "__class__" = some (some (.builtin "object.__class__"))) && (decide (PySem.W.specialIn K (.builtin "object.__class__") "__get__" = some (some (.builtin "getset_descriptor.__get__"))) && (decide (PySem.W.takesIn K (.builtin "object.__class__") = some true) && decide (PySem.W.mroIn K C (.type "object") = some true))))))))))))))
theorem errB_ok {K : PySem.W.Frag} {C : Addr} (h : errB K C = true) : ErrC K C ∧ ErrX K C := by
  obtain ⟨h1, h⟩ := bltM h
  obtain ⟨h2, h⟩ := bltM h
  obtain ⟨h3, h⟩ := bltM h
  obtain ⟨h4, h⟩ := bltM h
  obtain ⟨h5, h⟩ := bltM h
  obtain ⟨h6, h⟩ := bltM h
  obtain ⟨h7, h⟩ := bltM h
  obtain ⟨h8, h⟩ := bltM h
  obtain ⟨h9, h⟩ := bltM h
  obtain ⟨h10, h⟩ := bltM h
  obtain ⟨h11, h⟩ := bltM h
  obtain ⟨h12, h⟩ := bltM h
  obtain ⟨h13, h⟩ := bltM h
  obtain ⟨h14, h15⟩ := bltM h
  exact ⟨⟨h1, h2, of_decide_eq_true h3, of_decide_eq_true h4, h5, of_decide_eq_true h6, of_decide_eq_true h7, h8⟩,
    ⟨of_decide_eq_true h9, of_decide_eq_true h10, of_decide_eq_true h6, h5⟩, of_decide_eq_true h3,
    fun x ox od => PySem.W.kitx_exc h11 (of_decide_eq_true h9) (of_decide_eq_true h10) (of_decide_eq_true h6) (of_decide_eq_true h12) (of_decide_eq_true h13) (of_decide_eq_true h14) (of_decide_eq_true h15)⟩
/-- the table of classes -/
def exmB (K : PySem.W.Frag) (errs cls : List Str) : Bool := errs.all fun n => cls.all fun c => decide (PySem.W.exmOne K (.ref (He.ga K n)) (.ref (He.ga K c)) = some (isErr n c)) && decide (PySem.W.kitOne K (.ref (He.ga K n)) (.ref (He.ga K c)) = some (isErr n c))
theorem exmB_ok {K : PySem.W.Frag} {errs cls : List Str} (h : exmB K errs cls = true) (n : Str) (hn : n ∈ errs) (c : Str) (hc : c ∈ cls) : PySem.W.exmOne K (.ref (He.ga K n)) (.ref (He.ga K c)) = some (isErr n c) ∧ PySem.W.kitOne K (.ref (He.ga K n)) (.ref (He.ga K c)) = some (isErr n c) := by
  have h1 := List.all_eq_true.mp (List.all_eq_true.mp h n hn) c hc
  obtain ⟨a, b⟩ := bltM h1
  exact ⟨of_decide_eq_true a, of_decide_eq_true b⟩
theorem meth_at {K : PySem.W.Frag} {x m : Str} (c : (He.Fa.meth x m).ok K = true) : PySem.W.findIn K (.ref (He.ga K x)) m = some (some (.ref (He.ma K (He.ga K x) m))) ∧ PySem.W.typeIn K (.ref (He.ma K (He.ga K x) m)) = some (.type "function") := by
  obtain ⟨h1, h⟩ := bltM c
  obtain ⟨h2, _⟩ := bltM h
  exact ⟨He.eqO_ok h1, by simpa [PySem.W.isFn] using h2⟩
/-! ### is None, is True -/
def sIs2 (neg : Bool) : D → D → (D → Prop) → XD → Prop := fun a b q _ => match b with
  | .non => q (.bl (neg ^^ a.isNon))
  | .bl v => (match a with | .bl u => q (.bl (neg ^^ decide (u = v))) | _ => False)
  | _ => False
theorem cd_is2 {X : Cx} : CmpD X .Is (sIs2 false) := ⟨_, op_isN.or op_isBl, fun g E H F v w a b q x Q r ia ib hs hq hx => by
  unfold sIs2 at hs
  split at hs
  · rw [Bool.false_xor, ← ia.isNon] at hs
    exact .inl ⟨ib.non, hq _ H F _ r (.bl _) hs⟩
  · split at hs
    · rw [Bool.false_xor] at hs
      exact .inr ⟨_, _, ia.bl, ib.bl, hq _ H F _ r (.bl _) hs⟩
    · exact hs.elim
  · exact hs.elim⟩
theorem cd_isNot2 {X : Cx} : CmpD X .IsNot (sIs2 true) := ⟨_, op_notN.or op_notBl, fun g E H F v w a b q x Q r ia ib hs hq hx => by
  unfold sIs2 at hs
  split at hs
  · rw [Bool.true_xor, ← ia.isNon] at hs
    exact .inl ⟨ib.non, hq _ H F _ r (.bl _) hs⟩
  · split at hs
    · rw [Bool.true_xor] at hs
      exact .inr ⟨_, _, ia.bl, ib.bl, hq _ H F _ r (.bl _) hs⟩
    · exact hs.elim
  · exact hs.elim⟩
theorem ev_is2n (q : D → Prop) (x : XD) (n : Bool) (a : D) : sIs2 n a .non q x = q (.bl (n ^^ a.isNon)) := rfl
theorem ev_is2b (q : D → Prop) (x : XD) (n u v : Bool) : sIs2 n (.bl u) (.bl v) q x = q (.bl (n ^^ decide (u = v))) := rfl
end DL

/-! DL20: dicts written with constant keys; str, bool. -/
namespace DL
open PySem PySem.Spec PyProof.Rows L2
theorem valV_not {k : Key} : ∀ {kvs : List (Key × V)}, k ∉ kvs.map (·.1) → valV kvs k = none
  | [], _ => valV_nil
  | p :: r, h => by
    rw [List.map_cons, List.mem_cons, not_or] at h
    rw [valV_neg (fun e => h.1 e.symm)]
    exact valV_not h.2
theorem merge_zip : ∀ (ks : List Key) (vs : List V) (acc : List (Key × V)), (acc.map (·.1) ++ ks).Nodup → mergeK acc (ks.zip vs) = acc ++ ks.zip vs
  | [], vs, acc, _ => by rw [List.zip_nil_left, List.append_nil]; rfl
  | k :: ks, [], acc, _ => by rw [List.zip_nil_right, List.append_nil]; rfl
  | k :: ks, v :: vs, acc, h => by
    have hk : k ∉ acc.map (·.1) := fun z => (List.nodup_append.mp h).2.2 _ z _ (List.mem_cons_self ..) rfl
    rw [List.zip_cons_cons]
    show mergeK (putK acc k v) (ks.zip vs) = _
    rw [putK_new v (valV_not hk), merge_zip ks vs _ (by rw [List.map_append, List.append_assoc]; exact h), List.append_assoc]
    rfl
def fDic (ks : List Key) (fs : FA) : FE := fun ρ q x => fs ρ (fun ds => q (.dic ks ds)) x
def tP (K : PySem.W.Frag) (g : Gd) (E : XK) (m : List Nat) (ks : List Key) (fs : FA) : L2.St → Hp → (List (V × V) → Hp → Prop) → Prop := fun σ H Q => ∃ H0 F0 F ρ q x, Rel K g H0 F0 m σ H F ρ ∧ fs ρ q x ∧
  (∀ vs H' F' ds, Fr g H F H' F' → vs.length = ks.length → IsAll K F' vs ds → q ds → Q ((ks.map kV).zip vs) H') ∧ XE K g H F x E
def DP (X : Cx) (g : Gd) (E : XK) (m : List Nat) (pos : Pos) (keys : List (Option Expr)) (values : List Expr) (ks : List Key) (fs : FA) : Prop := ∃ trs, PPs X pos keys values trs ∧ ∀ σ H Q, tP X.K g E m ks fs σ H Q → tPairs trs σ H Q
section
variable {X : Cx} {g : Gd} {E : XK} {m : List Nat} {e key : Expr} {f : FE} {fs : FA} {k : Key} {ks : List Key} {keys : List (Option Expr)} {values : List Expr} {pos p : Pos} {fa : FE} {a : Expr}
theorem dp_nil : DP X g E m pos [] [] [] fNil := ⟨[], pps_nil, fun σ H Q ⟨H0, F0, F, ρ, q, x, R, hf, hq, hx⟩ => hq [] H F [] R.fr.self rfl .nil hf⟩
theorem dp_cons (hk : PE X key (tC (kV k))) (hv : DE X g E m e f) (hr : DP X g E m pos keys values ks fs) : DP X g E m pos (some key :: keys) (e :: values) (k :: ks) (fCons f fs) := by
  obtain ⟨trs, h1, h2⟩ := hr
  refine ⟨(tC (kV k), tE X.K g E m f) :: trs, pps_cons hk hv h1, fun σ H Q ⟨H0, F0, F, ρ, q, x, R, hf, hq, hx⟩ => ?_⟩
  refine ⟨H0, F0, F, ρ, _, x, R, hf, fun v H1 F1 d r1 i1 hd => ?_, hx⟩
  refine h2 σ H1 _ ⟨H0, F0, F1, ρ, _, x, R.step r1, hd, fun vs H2 F2 ds r2 hl i2 hq2 => ?_, hx.step r1⟩
  exact hq (v :: vs) H2 F2 (d :: ds) (r1.trans r2) (congrArg (· + 1) hl) (.cons (i1.up r2.f0) i2) hq2
theorem de_dic (h : DP X g E m pos keys values ks fs) (hn : ks.Nodup) (hall : keys.all (·.isSome) = true) (hl : keys.length = values.length) (h0 : keys ≠ []) (h15 : keys.length ≤ 15) (hkl : ks.length ≤ 15) : DE X g E m (.Dict keys values pos) (fDic ks fs) := by
  obtain ⟨trs, h1, h2⟩ := h
  refine PEimp (pe_disp h1 hall hl h0 h15) fun σ H Q ⟨H0, F0, F, ρ, q, x, R, hf, hq, hx⟩ p hp => ?_
  have r0 := R.fr.newO (o := .dK []) hp
  have hM := R.fr.freeM hp
  have hF := R.fr.freeF hp
  refine h2 σ _ _ ⟨H0, F0, F, ρ, _, x, R.step r0, hf, fun vs H2 F2 ds r1 hl2 i hq2 => ?_, hx.step r0⟩
  have hH2 : H2 p = some (.dK []) := r1.pre p _ hM upd_same
  have hF2 : F2 p = none := (r1.old p (by rw [upd_same]; exact fun z => nomatch z)).trans hF
  refine ⟨hH2, ks.zip vs, ?_, ?_, ?_⟩
  · rw [List.zip_map_left]; rfl
  · rw [List.length_zip, hl2, Nat.min_self]; exact hkl
  · rw [merge_zip ks vs [] (by exact hn), List.nil_append]
    exact hq (.ref p) _ (upd F2 p (.dK (ks.zip vs))) _ (((r0.trans r1).write (o := .dK (ks.zip vs)) hp hF2).freeze upd_same hp hF2) (.dic upd_same hl2.symm (i.up (upd_ex hF2))) hq2
theorem dk_int {i : Int} {j : Nat} : PE X (.Constant (.int i) j pos) (tC (kV (.inl i))) := pe_int
theorem dk_str {x : Str} {j : Nat} : PE X (.Constant (.str x) j pos) (tC (kV (.inr x))) := pe_str
/-- str of an integer -/
def sStr : Sem1T := fun a q _ => match a with | .int i => i.natAbs.log2 < 1920 ∧ q (.str (toString i)) | _ => False
theorem de_str1 (hg : Gl X "str") (hm : X.mg "str" = none) (ha : DB X g E m a fa) (hb : bootBuiltins "str" = some (.type "str") := by decide +kernel) (h1 : starEach [a] X.env = (false, eval a X.env) :: starEach [] X.env := by rfl) : DE X g E m (.Call (.Name "str" p) [a] [] pos) (f1 sStr fa) :=
  de_1 (pe_callTy call_str_int hg hm hb (pa_cons ha pa_nil h1) (he := h1)) fun g E H F v a q x Q r ia hs hq hx => by
  unfold sStr at hs
  split at hs
  · rw [ia.int]
    exact ⟨_, rfl, hs.1, hq _ H F _ r (.str _) hs.2⟩
  · exact hs.elim
/-- bool of an integer -/
def sBool : Sem1T := fun a q _ => match a with | .int i => q (.bl (i != 0)) | .bl b => q (.bl b) | _ => False
theorem de_bool1 (hg : Gl X "bool") (hm : X.mg "bool" = none) (ha : DB X g E m a fa) (hb : bootBuiltins "bool" = some (.type "bool") := by decide +kernel) (h1 : starEach [a] X.env = (false, eval a X.env) :: starEach [] X.env := by rfl) : DE X g E m (.Call (.Name "bool" p) [a] [] pos) (f1 sBool fa) :=
  de_1 (pe_callTy call_bool1 hg hm hb (pa_cons ha pa_nil h1) (he := h1)) fun g E H F v a q x Q r ia hs hq hx => by
  unfold sBool at hs
  split at hs
  · rw [ia.int]
    exact .inl ⟨_, rfl, hq _ H F _ r (.bl _) hs⟩
  · rw [ia.bl]
    exact .inr ⟨_, rfl, hq _ H F _ r (.bl _) hs⟩
  · exact hs.elim
end
/-! ### a def that is never called: the end of a recursion -/
section
variable {P : Program} {w : World} {K : PySem.W.Frag} {mg : Str → Option Value} {base : Heap} {CX : CXT} {k : Nat} {f : Addr} {fd : FuncData} {ps : List Str} {nm : Str} {kd : Bool}
theorem none_G : FnG P w K mg base CX k f fd ps (spG K nm kd fun _ _ _ => False) :=
  ⟨fun _ _ _ _ ⟨_, _, _, _, _, _, _, _, hf, _⟩ => hf.elim, fun _ _ _ _ _ _ _ _ _ _ _ _ _ _ ⟨_, _, _, _, _, _, _, _, hf, _⟩ => hf.elim⟩
theorem none_N : FnG P w K mg base CX k f fd ps (spN K kd fun _ _ _ => False) :=
  ⟨fun _ _ _ _ ⟨_, _, _, _, _, _, hf, _⟩ => hf.elim, fun _ _ _ _ _ _ _ _ _ _ _ _ _ _ ⟨_, _, _, _, _, _, hf, _⟩ => hf.elim⟩
end
end DL

/-! DL21: range with a step, insert, extend, max and sum of a list, several names at once with new lists among them, lists of ours lent to a deed. -/
namespace DL
open PySem PySem.Spec PyProof.Rows L2
/-! ### range(a, b, c) -/
def rangeC (lo c : Int) (n : Nat) : List D := (List.range n).map fun i => .int (lo + (i : Nat) * c)
theorem yl_rangeC {K : PySem.W.Frag} {F : Hp} {lo c : Int} {n : Nat} : Yl K (Itc lo c n) F (rangeC lo c n) where
  go := fun i H e hi => by
    have : i < n := by simpa [rangeC] using hi
    exact this
  yl := fun g i d H F1 x H' r e hd hy => by
    obtain ⟨rfl, rfl⟩ := hy
    unfold rangeC at hd
    rw [List.getElem?_map] at hd
    cases hr : (List.range n)[i]? with
    | none => rw [hr] at hd; cases hd
    | some j =>
      rw [hr] at hd
      have hj : j = i := by
        obtain ⟨h1, h2⟩ := List.getElem?_eq_some_iff.mp hr
        rw [List.getElem_range] at h2
        exact h2.symm
      cases hd
      subst hj
      exact ⟨F1, r, .int _⟩
  stop := fun i H e hi => by
    have : n ≤ i := by simpa [rangeC] using hi
    exact this
def fRg3 (f f' f'' : FE) : FI := fun ρ q x => f ρ (fun d => f' ρ (fun e => f'' ρ (fun c => match d, e, c with | .int lo, .int hi, .int st => ∃ n, RgC lo hi st n ∧ q (rangeC lo st n) | _, _, _ => False) x) x) x
section
variable {X : Cx} {g : Gd} {E : XK} {m : List Nat} {a b c tg : Expr} {fa fb fc : FE} {pos p : Pos}
theorem di_range3 (hg : Gl X "range") (hm : X.mg "range" = none) (h : DE X g E m a fa) (h' : DE X g E m b fb) (h'' : DE X g E m c fc) (hs : starEach [a, b, c] X.env = [(false, eval a X.env), (false, eval b X.env), (false, eval c X.env)] := by rfl)
    (hs2 : starEach [b, c] X.env = [(false, eval b X.env), (false, eval c X.env)] := by rfl) (hs3 : starEach [c] X.env = [(false, eval c X.env)] := by rfl) :
    DI X g E m tg (.Call (.Name "range" p) [a, b, c] [] pos) (fRg3 fa fb fc) := PIimp (pi_range3 hg hm (pa_cons h (pa_cons h' (pa_cons h'' pa_nil hs3) (by rw [hs2, hs3])) (by rw [hs, hs2])) (by rw [hs, hs2]) (by rw [hs2]; rfl)) fun σ H R ⟨H0, F0, F, ρ, q, x, Rl, hf, hq, hx⟩ =>
  ⟨H0, F0, F, ρ, _, x, Rl, hf, fun v H1 F1 d r1 i1 hd => ⟨H0, F0, F1, ρ, _, x, Rl.step r1, hd, fun w H2 F2 d2 r2 i2 hd => ⟨H0, F0, F2, ρ, _, x, (Rl.step r1).step r2, hd, fun u H3 F3 d3 r3 i3 hd => by
    split at hd
    · cases i1
      cases i2
      cases i3
      obtain ⟨n, h1, h2⟩ := hd
      exact ⟨_, _, _, n, rfl, h1, hq _ H3 F3 _ (r1.trans (r2.trans r3)) yl_rangeC h2⟩
    · exact hd.elim, (hx.step r1).step r2⟩, hx.step r1⟩, hx⟩
end
/-! ### insert, extend -/
def fIns (i : Nat) (fi fv : FE) : FS := fun ρ d => match ρ[i]? with | some (some (.lst xs)) => fi ρ (fun k => fv ρ (fun a => match k with | .int z => xs.length < LN ∧ 0 ≤ z ∧ z < 2 ^ 62 ∧ d.nx (ρ.set i (some (.lst (xs.take z.toNat ++ [a] ++ xs.drop z.toNat)))) | _ => False) d.x) d.x | _ => False
def fExt (i : Nat) (f : FE) : FS := fun ρ d => match ρ[i]? with | some (some (.lst xs)) => f ρ (fun a => match a with | .lst ys => xs.length + ys.length ≤ LN ∧ d.nx (ρ.set i (some (.lst (xs ++ ys)))) | _ => False) d.x | _ => False
section
variable {X : Cx} {g : Gd} {E : XK} {kd : Bool} {mb m : List Nat} {e e2 : Expr} {fe fe2 : FE} {pos p apos cpos : Pos}
theorem ds_ins {i : Nat} {o : Expr} (ho : PE X o (tVar i)) (hm : m.contains i = true) (h : DE X g E m e fe) (h2 : DE X g E m e2 fe2) (hs : swapsWith (.Call (.Attribute o "insert" apos) [e, e2] [] cpos) none pos.line X.env = pure false := by rfl)
    (hbase : attributeBase o "insert" X.env (eval o X.env) = eval o X.env := by rfl)
    (hfew : ((backTo cpos (starEach [e, e2] X.env)).all (fun x => !x.1) && (backToKw cpos (keywordEach [] X.env)).all (fun x => x.1.isSome) && decide (([e, e2] : List Expr).length + ([] : List Keyword).length + (if ([] : List Keyword).isEmpty then 0 else 1) < 30)) = true := by rfl)
    (hline : (apos.endLine == cpos.line) = true := by rfl) (hst : starEach [e, e2] X.env = (false, eval e X.env) :: starEach [e2] X.env := by rfl) (hst2 : starEach [e2] X.env = (false, eval e2 X.env) :: starEach [] X.env := by rfl) (hplain : (backTo cpos (starEach [e2] X.env)).any (·.1) = false := by rfl) :
    DS X g E kd mb m m (.Expr (.Call (.Attribute o "insert" apos) [e, e2] [] cpos) pos) (fIns i fe fe2) :=
  PSimp (ps_expr (pe_bm PySem.F.plainAttrs_list PySem.F.slot_list_insert PySem.F.type_list_insert mt_insert ho (pa_cons h (pa_cons h2 pa_nil hst2) hst) hbase hfew hline hst hplain) hs) fun D σ H ⟨H0, F0, F, ρ, d, R, hf, h1, h2, h3, h4, h5⟩ => by
  unfold fIns at hf
  split at hf
  rotate_left
  · exact hf.elim
  rename_i ys ey
  obtain ⟨p0, vs0, xs0, s1, s2, s3, _⟩ := R.mut (i := i) (by simpa using hm) ey
  refine ⟨_, s1, .inl ⟨rfl, vs0, .inl (.inl s3)⟩, H0, F0, F, ρ, _, d.x, R, hf, fun v H1 F1 k r is hd => ⟨H0, F0, F1, ρ, _, d.x, R.step r, hd, fun w H2 F2 a r2 is2 hd => ?_, (h5.step R.fr).step r⟩, h5.step R.fr⟩
  obtain ⟨p, vs, xs, q1, q2, q3, q4, q5⟩ := ((R.step r).step r2).mut (i := i) (by simpa using hm) ey
  rw [s1] at q1
  cases q1
  rw [ey] at q2
  cases q2
  split at hd
  · cases is
    obtain ⟨l1, l2, l3, hd⟩ := hd
    exact ⟨_, vs, _, w, rfl, rfl, q3, LN_lt (by rw [q4.length]; exact Nat.le_of_lt l1), l2, Int.lt_of_lt_of_le l3 (by decide), h1 σ _ F2 _ (q5 _ _ (((q4.take _).append (.cons is2 .nil)).append (q4.drop _))) (r.f0.trans r2.f0) hd⟩
  · exact hd.elim
theorem ds_ext {i : Nat} {o : Expr} (ho : PE X o (tVar i)) (hm : m.contains i = true) (h : DE X g E m e fe) (hs : swapsWith (.Call (.Attribute o "extend" apos) [e] [] cpos) none pos.line X.env = pure false := by rfl)
    (hbase : attributeBase o "extend" X.env (eval o X.env) = eval o X.env := by rfl)
    (hfew : ((backTo cpos (starEach [e] X.env)).all (fun x => !x.1) && (backToKw cpos (keywordEach [] X.env)).all (fun x => x.1.isSome) && decide (([e] : List Expr).length + ([] : List Keyword).length + (if ([] : List Keyword).isEmpty then 0 else 1) < 30)) = true := by rfl)
    (hline : (apos.endLine == cpos.line) = true := by rfl) (hst : starEach [e] X.env = (false, eval e X.env) :: starEach [] X.env := by rfl) (hplain : (backTo cpos (starEach ([] : List Expr) X.env)).any (·.1) = false := by rfl) :
    DS X g E kd mb m m (.Expr (.Call (.Attribute o "extend" apos) [e] [] cpos) pos) (fExt i fe) :=
  PSimp (ps_expr (pe_bm PySem.F.plainAttrs_list PySem.F.slot_list_extend PySem.F.type_list_extend mt_extend ho (pa_cons h pa_nil hst) hbase hfew hline hst hplain) hs) fun D σ H ⟨H0, F0, F, ρ, d, R, hf, h1, h2, h3, h4, h5⟩ => by
  unfold fExt at hf
  split at hf
  rotate_left
  · exact hf.elim
  rename_i zs ez
  obtain ⟨p0, vs0, xs0, s1, s2, s3, _⟩ := R.mut (i := i) (by simpa using hm) ez
  refine ⟨_, s1, .inl ⟨rfl, vs0, .inl (.inl s3)⟩, H0, F0, F, ρ, _, d.x, R, hf, fun v H1 F1 a r is hd => ?_, h5.step R.fr⟩
  have R1 := R.step r
  obtain ⟨p, vs, xs, q1, q2, q3, q4, q5⟩ := R1.mut (i := i) (by simpa using hm) ez
  rw [s1] at q1
  cases q1
  rw [ez] at q2
  cases q2
  split at hd
  · cases is with
    | lst a1 a2 => exact ⟨_, _, vs, _, rfl, rfl, q3, R1.fr.sub _ _ a1, LN_line (by rw [q4.length, a2.length]; exact hd.1), h1 σ _ F1 _ (q5 _ _ (q4.append a2)) r.f0 hd.2⟩
  · exact hd.elim
end
/-! ### max, sum of a list of integers -/
theorem IsAll.intsV {K : PySem.W.Frag} {F : Hp} : ∀ {ns : List Int} {vs : List V}, IsAll K F vs (ns.map D.int) → vs = ns.map V.int
  | [], vs, h => by cases h; rfl
  | n :: ns, vs, h => by
    rw [List.map_cons] at h
    cases h with
    | cons h1 h2 => cases h1; rw [h2.intsV] <;> rfl
def sMaxL : Sem1T := fun a q _ => match a with | .lst ds => ∃ ns : List Int, ds = ns.map D.int ∧ 0 < ns.length ∧ ∀ m, m ∈ ns → (∀ y, y ∈ ns → y ≤ m) → q (.int m) | _ => False
def sSumL : Sem1T := fun a q _ => match a with | .lst ds => ∃ ns : List Int, ds = ns.map D.int ∧ q (.int ns.sum) | _ => False
section
variable {X : Cx} {g : Gd} {E : XK} {m : List Nat} {e : Expr} {fe : FE} {pos p : Pos}
theorem de_maxL (hc : X.calm = true) (hg : Gl X "max") (hm : X.mg "max" = none) (ha : DB X g E m e fe) (hb : bootBuiltins "max" = some (.builtin "max") := by decide +kernel) (h1 : starEach [e] X.env = (false, eval e X.env) :: starEach [] X.env := by rfl) : DE X g E m (.Call (.Name "max" p) [e] [] pos) (f1 sMaxL fe) :=
  de_1 (r := fun v H Q => rMax X.K [v] H Q) (pe_callB (cr_max hc) hg hm hb (pa_cons ha pa_nil h1) (he := h1)) fun g E H F v a q x Q r ia hs hq hx => by
  unfold sMaxL at hs
  split at hs
  · obtain ⟨ns, rfl, h0, hs⟩ := hs
    obtain ⟨l, ys, rfl, h1, h2⟩ := ia.lst' r.sub
    exact ⟨l, ns, rfl, by rw [← h2.intsV]; exact h1, h0, fun m hm hy => hq _ H F _ r (.int _) (hs m hm hy)⟩
  · exact hs.elim
theorem de_sumL (hc : X.calm = true) (hg : Gl X "sum") (hm : X.mg "sum" = none) (ha : DB X g E m e fe) (hb : bootBuiltins "sum" = some (.builtin "sum") := by decide +kernel) (h1 : starEach [e] X.env = (false, eval e X.env) :: starEach [] X.env := by rfl) : DE X g E m (.Call (.Name "sum" p) [e] [] pos) (f1 sSumL fe) :=
  de_1 (r := fun v H Q => rSum X.K [v] H Q) (pe_callB (cr_sum hc) hg hm hb (pa_cons ha pa_nil h1) (he := h1)) fun g E H F v a q x Q r ia hs hq hx => by
  unfold sSumL at hs
  split at hs
  · obtain ⟨ns, rfl, hs⟩ := hs
    obtain ⟨l, ys, rfl, h1, h2⟩ := ia.lst' r.sub
    exact ⟨l, ns, rfl, by rw [← h2.intsV]; exact h1, hq _ H F _ r (.int _) hs⟩
  · exact hs.elim
/-! ### a if t else b, both new lists -/
theorem df_if {c a b : Expr} {f : FT} {fa fb : FE} (hc : DT X g E m c f) (ha : DF X g E m a fa) (hb : DF X g E m b fb) : DF X g E m (.IfExp c a b pos) (fIf f fa fb) := PEimp (pe_ifExp hc ha hb) fun σ H Q ⟨H0, F0, F, ρ, q, x, R, hf, hq, hx⟩ =>
  ⟨H0, F0, F, ρ, _, x, R, hf, fun c H' F' r hd => by
    have up : ∀ {a : Addr}, H' a = none → H a = none := fun h => r.back h
    cases c with
    | true =>
      rw [if_pos rfl] at hd
      refine iteT ?_
      exact ⟨H0, F0, F', ρ, q, x, R.step r, hd, fun p H2 F2 vs xs r2 n e1 e2 ha h2 => hq p H2 F2 vs xs (r.trans r2) (up n) e1 e2 ha h2, hx.step r⟩
    | false =>
      rw [if_neg Bool.false_ne_true] at hd
      refine iteF ?_
      exact ⟨H0, F0, F', ρ, q, x, R.step r, hd, fun p H2 F2 vs xs r2 n e1 e2 ha h2 => hq p H2 F2 vs xs (r.trans r2) (up n) e1 e2 ha h2, hx.step r⟩, hx⟩
end
/-! ### several names at once, new lists among them -/
inductive Mx (K : PySem.W.Frag) (H0 H F : Hp) : List Bool → List V → List D → List Addr → Prop
  | nil : Mx K H0 H F [] [] [] []
  | dat {ks vs ds ps v d} : Is K F v d → Mx K H0 H F ks vs ds ps → Mx K H0 H F (false :: ks) (v :: vs) (d :: ds) ps
  | own {ks vs ds ps p o d} : H p = some o → Own K F o d → F p = none → H0 p = none → p ∉ ps → Mx K H0 H F ks vs ds ps → Mx K H0 H F (true :: ks) (.ref p :: vs) (d :: ds) (p :: ps)
theorem Mx.back {K : PySem.W.Frag} {g : Gd} {H0 F0 H1 F1 H F : Hp} {ks : List Bool} {vs : List V} {ds : List D} {ps : List Addr} (h : Mx K H1 H F ks vs ds ps) (r : Fr g H0 F0 H1 F1) : Mx K H0 H F ks vs ds ps := by
  induction h with
  | nil => exact .nil
  | dat h1 _ ih => exact .dat h1 ih
  | own h1 h2 h3 h4 h5 _ ih => exact .own h1 h2 h3 (r.back h4) h5 ih
theorem Mx.len {K : PySem.W.Frag} {H1 H F : Hp} {ks : List Bool} {vs : List V} {ds : List D} {ps : List Addr} (h : Mx K H1 H F ks vs ds ps) : vs.length = ks.length := by
  induction h with
  | nil => rfl
  | dat _ _ ih => rw [List.length_cons, List.length_cons, ih]
  | own _ _ _ _ _ _ ih => rw [List.length_cons, List.length_cons, ih]
theorem Mx.fresh {K : PySem.W.Frag} {H1 H F : Hp} {ks : List Bool} {vs : List V} {ds : List D} {ps : List Addr} (h : Mx K H1 H F ks vs ds ps) : ∀ p ∈ ps, H1 p = none := by
  induction h with
  | nil => exact fun p hp => by cases hp
  | dat h1 _ ih => exact ih
  | own h1 h2 h3 h4 h5 _ ih =>
    intro p hp
    rcases List.mem_cons.mp hp with rfl | hp
    · exact h4
    · exact ih p hp
def tMx (K : PySem.W.Frag) (g : Gd) (E : XK) (m : List Nat) (ks : List Bool) (f : FA) : TA := fun σ H Q => ∃ H0 F0 F ρ q x, Rel K g H0 F0 m σ H F ρ ∧ f ρ q x ∧
  (∀ vs H' F' ds ps, Fr g H F H' F' → Mx K H H' F' ks vs ds ps → q ds → Q vs H') ∧ XE K g H F x E
abbrev DM (X : Cx) (g : Gd) (E : XK) (m : List Nat) (ks : List Bool) (es : List Expr) (f : FA) : Prop := PA X es (tMx X.K g E m ks f)
section
variable {X : Cx} {g : Gd} {E : XK} {kd : Bool} {mb m : List Nat} {a b c e : Expr} {es : List Expr} {ks : List Bool} {fs : FA} {fe : FE} {pos : Pos}
theorem dm_nil : DM X g E m [] [] fNil := PAimp pa_nil fun σ H Q ⟨H0, F0, F, ρ, q, x, R, hf, hq, hx⟩ => hq [] H F [] [] R.fr.self .nil hf
theorem dm_E (h : DE X g E m e fe) (hr : DM X g E m ks es fs) (hs : starEach (e :: es) X.env = (false, eval e X.env) :: starEach es X.env := by rfl) : DM X g E m (false :: ks) (e :: es) (fCons fe fs) := PAimp (pa_cons h hr hs) fun σ H Q ⟨H0, F0, F, ρ, q, x, R, hf, hq, hx⟩ =>
  ⟨H0, F0, F, ρ, _, x, R, hf, fun v H1 F1 d r1 i1 hd => ⟨H0, F0, F1, ρ, _, x, R.step r1, hd, fun vs H2 F2 ds ps r2 i2 h2 => hq _ H2 F2 _ ps (r1.trans r2) (.dat (i1.up r2.f0) (i2.back r1)) h2, hx.step r1⟩, hx⟩
theorem dm_FO (h : DFO X g E m e fe) (hr : DM X g E m ks es fs) (hs : starEach (e :: es) X.env = (false, eval e X.env) :: starEach es X.env := by rfl) : DM X g E m (true :: ks) (e :: es) (fCons fe fs) := PAimp (pa_cons h hr hs) fun σ H Q ⟨H0, F0, F, ρ, q, x, R, hf, hq, hx⟩ =>
  ⟨H0, F0, F, ρ, _, x, R, hf, fun p H1 F1 ws xs r1 n e1 e2 ha hd => ⟨H0, F0, F1, ρ, _, x, R.step r1, hd, fun vs H2 F2 ds ps r2 i2 h2 => by
    have nM : ¬ g.M p := fun z => R.fr.j.has z n
    have k1 := r2.pre p _ nM e1
    have k2 : F2 p = none := (r2.old p (by rw [e1]; exact fun z => by cases z)).trans e2
    exact hq _ H2 F2 _ (p :: ps) (r1.trans r2) (.own k1 (ha.up r2.f0) k2 n (fun z => by have := i2.fresh p z; rw [e1] at this; cases this) (i2.back r1)) h2, hx.step r1⟩, hx⟩
theorem dm_F (h : DF X g E m e fe) (hr : DM X g E m ks es fs) (hs : starEach (e :: es) X.env = (false, eval e X.env) :: starEach es X.env := by rfl) : DM X g E m (true :: ks) (e :: es) (fCons fe fs) := dm_FO (DF.toO h) hr hs
/-- the slots behind one store -/
def stM (k : Bool) (i : Nat) (m : List Nat) : List Nat := if k then i :: del m i else del m i
variable {K : PySem.W.Frag} {H0 F0 H F H1 : Hp} {σ : L2.St} {ρ : Ro} {d : D} {v : V} {k : Bool} {ds : List D} {vs : List V} {ps : List Addr}
/-- one store; av: addresses that the lists of ours do not have -/
theorem Rel.st1 (R : Rel K g H0 F0 m σ H F ρ) (h : Mx K H1 H F (k :: ks) (v :: vs) (d :: ds) ps) (h1 : ∀ p, H1 p = none → H0 p = none) (hi : i < ρ.length) (av : ∀ j u, σ[j]? = some (some u) → j ∈ m → ∀ p ∈ ps, u ≠ .ref p) :
    Rel K g H0 F0 (stM k i m) (σ.set i (some v)) H F (ρ.set i (some d)) ∧ ∃ ps', Mx K H1 H F ks vs ds ps' ∧ ∀ j u, (σ.set i (some v))[j]? = some (some u) → j ∈ stM k i m → ∀ p ∈ ps', u ≠ .ref p := by
  cases h with
  | dat h2 h3 =>
    refine ⟨R.set h2 hi, ps, h3, fun j u hj hm => ?_⟩
    have hm' : j ∈ del m i := hm
    obtain ⟨q1, q2⟩ := List.mem_filter.mp hm'
    rcases set_get hj with ⟨rfl, _⟩ | ⟨_, e⟩
    · simp at q2
    · exact av j u e q1
  | @own _ _ _ ps' p ws xs h2 h3 h4 h5 h6 h7 =>
    refine ⟨R.setW hi h2 h4 (h1 _ h5) h3 fun j u hj hm => av j u hj hm p (List.mem_cons_self ..), ps', h7, fun j u hj hm => ?_⟩
    rcases set_get hj with ⟨rfl, e⟩ | ⟨ne, e⟩
    · cases e
      exact fun q hq z => by cases z; exact h6 hq
    · have hm' : j ∈ i :: del m i := hm
      rcases List.mem_cons.mp hm' with z | z
      · exact absurd z ne
      · exact fun q hq => av j u e (List.mem_filter.mp z).1 q (List.mem_cons_of_mem _ hq)
theorem Rel.av0 (R : Rel K g H0 F0 m σ H1 F ρ) (h : ∀ p ∈ ps, H1 p = none) : ∀ j u, σ[j]? = some (some u) → j ∈ m → ∀ p ∈ ps, u ≠ .ref p := fun j u hj hm p hp z => by
  subst z
  obtain ⟨oa, q1, _⟩ := R.own
  obtain ⟨vs', xs', e1', _, e3', _⟩ := q1 j hm
  rw [hj] at e1'
  have e4 := h p hp
  cases e1'
  rw [e4] at e3'
  cases e3'
variable {k1 k2 k3 : Bool}
theorem ds_parM2 {i j : Nat} {x y : Str} {px py pt : Pos} {kt k2' pt2} (hc : X.calm = true) (hN : X.N.Nodup) (hi : X.N[i]? = some x) (hj : X.N[j]? = some y) (hx : X.env.scope.names.lookup x = some .local) (hy : X.env.scope.names.lookup y = some .local) (ha : DM X g E m [k1, k2] [a, b] fs)
    (hw : swappedStores [.Tuple [.Name x px, .Name y py] kt pt] (.Tuple [a, b] k2' pt2) X.env = pure (some [x, y]) := by rfl) (hij : i ≠ j := by decide)
    (hs : swapsWithSole [.Tuple [.Name x px, .Name y py] kt pt] (.Tuple [a, b] k2' pt2) pos.line X.env = pure false := by rfl) :
    DS X g E kd mb m (stM k2 j (stM k1 i m)) (.Assign [.Tuple [.Name x px, .Name y py] kt pt] (.Tuple [a, b] k2' pt2) pos) (fPar2 i j fs) := PSimp (ps_par hc hN hi hj hij hx hy ha hw hs) fun D σ H ⟨H0, F0, F, ρ, d, R, hf, h1, h2, h3, h4, h5⟩ =>
  ⟨H0, F0, F, ρ, _, d.x, R, hf, fun vs H1 F1 ds ps r1 i1 hd => by
    split at hd
    · have av := R.av0 i1.fresh
      obtain ⟨v, w, rfl⟩ : ∃ v w, vs = [v, w] := by
        have hl := i1.len
        match vs, hl with
        | [v, w], _ => exact ⟨v, w, rfl⟩
      obtain ⟨R1, ps1, i2, av1⟩ := (R.step r1).st1 (i := i) i1 (fun p hp => R.fr.back hp) hd.1 av
      obtain ⟨R2, _⟩ := R1.st1 (i := j) i2 (fun p hp => R.fr.back hp) (by rw [List.length_set]; exact hd.2.1) av1
      exact ⟨_, _, rfl, h1 _ H1 F1 _ R2 r1.f0 hd.2.2⟩
    · exact hd.elim, h5.step R.fr⟩
theorem ds_parM3 {i j l : Nat} {x y z : Str} {px py pz pt : Pos} {kt k2' pt2} (hc : X.calm = true) (hN : X.N.Nodup) (hi : X.N[i]? = some x) (hj : X.N[j]? = some y) (hl : X.N[l]? = some z) (hx : X.env.scope.names.lookup x = some .local) (hy : X.env.scope.names.lookup y = some .local) (hz : X.env.scope.names.lookup z = some .local) (ha : DM X g E m [k1, k2, k3] [a, b, c] fs)
    (hw : swappedStores [.Tuple [.Name x px, .Name y py, .Name z pz] kt pt] (.Tuple [a, b, c] k2' pt2) X.env = pure (some [x, y, z]) := by rfl) (hij : i ≠ j := by decide) (hil : i ≠ l := by decide) (hjl : j ≠ l := by decide)
    (hs : swapsWithSole [.Tuple [.Name x px, .Name y py, .Name z pz] kt pt] (.Tuple [a, b, c] k2' pt2) pos.line X.env = pure false := by rfl) :
    DS X g E kd mb m (stM k3 l (stM k2 j (stM k1 i m))) (.Assign [.Tuple [.Name x px, .Name y py, .Name z pz] kt pt] (.Tuple [a, b, c] k2' pt2) pos) (fPar3 i j l fs) := PSimp (ps_par3 hc hN hi hj hl hij hil hjl hx hy hz ha hw hs) fun D σ H ⟨H0, F0, F, ρ, d, R, hf, h1, h2, h3, h4, h5⟩ =>
  ⟨H0, F0, F, ρ, _, d.x, R, hf, fun vs H1 F1 ds ps r1 i1 hd => by
    split at hd
    · have av := R.av0 i1.fresh
      obtain ⟨v, w, u, rfl⟩ : ∃ v w u, vs = [v, w, u] := by
        have hl := i1.len
        match vs, hl with
        | [v, w, u], _ => exact ⟨v, w, u, rfl⟩
      obtain ⟨R1, ps1, i2, av1⟩ := (R.step r1).st1 (i := i) i1 (fun p hp => R.fr.back hp) hd.1 av
      obtain ⟨R2, ps2, i3, av2⟩ := R1.st1 (i := j) i2 (fun p hp => R.fr.back hp) (by rw [List.length_set]; exact hd.2.1) av1
      obtain ⟨R3, _⟩ := R2.st1 (i := l) i3 (fun p hp => R.fr.back hp) (by rw [List.length_set, List.length_set]; exact hd.2.2.1) av2
      exact ⟨_, _, _, rfl, h1 _ H1 F1 _ R3 r1.f0 hd.2.2.2⟩
    · exact hd.elim, h5.step R.fr⟩
end
/-! ### a list of ours lent to a deed that keeps nothing of it -/
mutual
def D.flat : D → Bool
  | .lst _ => false
  | .dic _ _ => false
  | .dtu _ _ => false
  | .err _ _ => false
  | .diz _ _ => false
  | .tup xs => D.flats xs
  | _ => true
def D.flats : List D → Bool
  | [] => true
  | x :: xs => D.flat x && D.flats xs
end
inductive Mu : HO → Prop
  | lst (vs : List V) : Mu (.lst vs)
  | dT (ks : List (List Key × V)) : Mu (.dT ks)
theorem Own.mu {K : PySem.W.Frag} {F : Hp} {o : HO} {d : D} (h : Own K F o d) : Mu o := by cases h <;> constructor
def offH (F : Hp) (p : Addr) : Hp := fun a => if a = p then none else F a
theorem offH_ne {F : Hp} {p a : Addr} (h : a ≠ p) : offH F p a = F a := if_neg h
theorem offH_self {F : Hp} {p : Addr} : offH F p p = none := if_pos rfl
section
variable {K : PySem.W.Frag} {F : Hp} {p : Addr} {ws : HO}
mutual
theorem Is.off (hp : F p = some ws) (mu : Mu ws) : ∀ (d : D) (v : V), d.flat = true → Is K F v d → Is K (offH F p) v d
  | .non, _, _, h => by cases h; exact .non
  | .bl b, _, _, h => by cases h; exact .bl b
  | .int i, _, _, h => by cases h; exact .int i
  | .str x, _, _, h => by cases h; exact .str x
  | .ref a, _, _, h => by cases h; exact .ref a
  | .tup ds, _, f, h => by
    cases h with
    | tup h1 h2 =>
      refine .tup ?_ (IsAll.off hp mu ds _ f h2)
      rcases h1 with h | h
      · exact .inl ((offH_ne (fun z => by rw [z, hp] at h; cases mu <;> cases h)).trans h)
      · exact .inr h
  | .lst ds, _, f, h => by cases f
  | .dic ks ds, _, f, h => by cases f
  | .dtu ks ds, _, f, h => by cases f
  | .err n d, _, f, h => by cases f
  | .diz ks ds, _, f, h => by cases f
theorem IsAll.off (hp : F p = some ws) (mu : Mu ws) : ∀ (ds : List D) (vs : List V), D.flats ds = true → IsAll K F vs ds → IsAll K (offH F p) vs ds
  | [], _, _, h => by cases h; exact .nil
  | d :: ds, _, f, h => by
    have f' : (D.flat d && D.flats ds) = true := f
    rw [Bool.and_eq_true] at f'
    cases h with
    | cons h1 h2 => exact .cons (Is.off hp mu d _ f'.1 h1) (IsAll.off hp mu ds _ f'.2 h2)
end
end
section
variable {K : PySem.W.Frag} {g : Gd} {H0 F0 H F : Hp} {m : List Nat} {σ : L2.St} {ρ : Ro}
theorem Rel.lend (r : Rel K g H0 F0 m σ H F ρ) {i : Nat} (hi : i ∈ m) : ∃ p vs, H p = some vs ∧ F p = none ∧ Rel K g H0 F0 (del m i) σ H (upd F p vs) ρ ∧ Mu vs := by
  obtain ⟨oa, h1, h2⟩ := r.own
  obtain ⟨vs, xs, e1, e2, e3, e4, e5, e6⟩ := h1 i hi
  have ex : Ex F (upd F (oa i) vs) := upd_ex e5
  refine ⟨oa i, vs, e3, e5, ⟨r.fr.freeze e3 e6 e5, r.len, fun j d h3 h4 => ?_, oa, fun j hj => ?_, fun a ha b hb => h2 a (List.mem_filter.mp ha).1 b (List.mem_filter.mp hb).1⟩, e4.mu⟩
  · by_cases hj : j = i
    · subst hj
      rw [e2] at h3
      cases h3
      exact ⟨_, e1, (e4.up ex).is upd_same⟩
    · have hm : j ∉ m := fun z => h4 (List.mem_filter.mpr ⟨z, by simpa using hj⟩)
      obtain ⟨v, q1, q2⟩ := r.vals j d h3 hm
      exact ⟨v, q1, q2.up ex⟩
  · obtain ⟨hj1, hj2⟩ := List.mem_filter.mp hj
    obtain ⟨vs', xs', a1, a2, a3, a4, a5, a6⟩ := h1 j hj1
    have ne : oa j ≠ oa i := fun z => by
      have := h2 j hj1 i hi z
      simp [this] at hj2
    exact ⟨vs', xs', a1, a2, a3, a4.up ex, by rw [upd_ne ne]; exact a5, a6⟩
/-- behind the deed the list is ours again -/
theorem Fr.thaw {H' F' : Hp} {p : Addr} {vs : HO} (hp : F p = none) (hH : H p = some vs) (mu : Mu vs) (r : Fr g H (upd F p vs) H' F') : Fr g H F H' (offH F' p) ∧ F' p = some vs := by
  have e : F' p = some vs := r.f0 p _ upd_same
  refine ⟨⟨r.pre, r.j, fun a o h => ?_, fun a o h => ?_, fun a h => ?_, fun a m => ?_, fun a xs h => ?_⟩, e⟩
  · by_cases z : a = p
    · subst z; rw [offH_self] at h; cases h
    · rw [offH_ne z] at h; exact r.sub a o h
  · have z : a ≠ p := fun z => by rw [z, hp] at h; cases h
    rw [offH_ne z]
    exact r.f0 a o (by rw [upd_ne z]; exact h)
  · by_cases z : a = p
    · subst z; rw [offH_self, hp]
    · rw [offH_ne z, r.old a h, upd_ne z]
  · obtain ⟨h1, h2⟩ := r.nm a m
    have z : a ≠ p := fun z => by rw [z, e] at h1; cases h1
    rw [offH_ne z]
    exact ⟨h1, h2⟩
  · have q := r.tp a xs h
    have z : a ≠ p := fun z => by rw [z, e] at q; cases q; cases mu
    rw [offH_ne z]
    exact q
end
/-- what comes of it has no list in it -/
def fLend (f : FE) : FE := fun ρ q x => f ρ (fun d => d.flat = true ∧ q d) (fun n d => d.flat = true ∧ x n d)
def gLend (f : FT) : FT := fun ρ q x => f ρ q (fun n d => d.flat = true ∧ x n d)
section
variable {X : Cx} {g : Gd} {E : XK} {m : List Nat} {e : Expr} {f : FE} {ft : FT}
theorem xe_lend {K : PySem.W.Frag} {H F : Hp} {x : XD} {p : Addr} {vs : HO} (hp : F p = none) (hH : H p = some vs) (mu : Mu vs) (h : XE K g H F x E) : XE K g H (upd F p vs) (fun n d => d.flat = true ∧ x n d) E :=
  fun n dx H' F' v d r n0 e i ⟨hf, hx⟩ => by
    obtain ⟨r2, e2⟩ := Fr.thaw hp hH mu r
    exact h n dx H' _ v d r2 n0 e (DL.Is.off e2 mu d v hf i) hx
theorem de_lend (i : Nat) (hi : m.contains i = true) (h : DE X g E (del m i) e f) : DE X g E m e (fLend f) := PEimp h fun σ H Q ⟨H0, F0, F, ρ, q, x, R, hf, hq, hx⟩ => by
  obtain ⟨p, vs, hH, hp, R', mu⟩ := R.lend (i := i) (by simpa using hi)
  refine ⟨H0, F0, _, ρ, _, _, R', hf, fun v H' F' d r is ⟨hd, hd2⟩ => ?_, xe_lend hp hH mu hx⟩
  obtain ⟨r2, e2⟩ := Fr.thaw hp hH mu r
  exact hq v H' _ d r2 (DL.Is.off e2 mu d v hd is) hd2
theorem dt_lend (i : Nat) (hi : m.contains i = true) (h : DT X g E (del m i) e ft) : DT X g E m e (gLend ft) := PTimp h fun σ H Q ⟨H0, F0, F, ρ, q, x, R, hf, hq, hx⟩ => by
  obtain ⟨p, vs, hH, hp, R', mu⟩ := R.lend (i := i) (by simpa using hi)
  refine ⟨H0, F0, _, ρ, _, _, R', hf, fun b H' F' r hd => ?_, xe_lend hp hH mu hx⟩
  obtain ⟨r2, e2⟩ := Fr.thaw hp hH mu r
  exact hq b H' _ r2 hd
end
end DL

/-! DL22: a dict that gathers keys in a loop; its length. -/
namespace DL
open PySem PySem.Spec PyProof.Rows L2
/-! ### len of a dict -/
def rLenK : List V → Hp → VK → Prop := fun xs H Q => ∃ (p : Addr) (kvs : List (Key × V)), xs = [.ref p] ∧ H p = some (.dK kvs) ∧ Q (.int ((kvs.length : Nat) : Int)) H
theorem call_len_dK {X : Cx} : CallR X (.builtin "len") rLenK := by
  intro pins s σ H xs us Q I r h
  obtain ⟨p, kvs, rfl, hp, q⟩ := h
  obtain ⟨u, rfl, rx⟩ := vals1 r
  obtain rfl : u = .ref p := rx
  exact d_len I (.inl hp) fun t s' I' => ⟨.int ((kvs.length : Nat) : Int), H, I', ⟨_, rfl⟩, q⟩
def sLenK : Sem1T := fun a q _ => match a with | .dic ks _ => q (.int ks.length) | _ => False
theorem IsK {K : PySem.W.Frag} {F : Hp} {v : V} {ks : List Key} {ds : List D} (h : Is K F v (.dic ks ds)) : ∃ a xs, v = .ref a ∧ F a = some (.dK (ks.zip xs)) ∧ ks.length = xs.length := by
  cases h with
  | dic h1 h2 h3 => exact ⟨_, _, rfl, h1, h2⟩
section
variable {X : Cx} {g : Gd} {E : XK} {m : List Nat} {e : Expr} {fe : FE} {pos p : Pos}
theorem de_lenK (hg : Gl X "len") (hm : X.mg "len" = none) (ha : DE X g E m e fe) (h1 : starEach [e] X.env = (false, eval e X.env) :: starEach [] X.env := by rfl) : DE X g E m (.Call (.Name "len" p) [e] [] pos) (f1 sLenK fe) :=
  PEimp (pe_callB call_len_dK hg hm PySem.boot_len (pa_cons ha pa_nil h1) (he := h1)) fun σ H Q ⟨H0, F0, F, ρ, q, x, R, hf, hq, hx⟩ => by
  refine ⟨H0, F0, F, ρ, _, x, R, hf, fun v H1 F1 d r i hd => ?_, hx⟩
  unfold sLenK at hd
  split at hd
  · rename_i ks ds
    obtain ⟨a, xs, rfl, h2, h3⟩ := IsK i
    refine ⟨a, _, rfl, r.sub _ _ h2, ?_⟩
    rw [List.length_zip, ← h3, Nat.min_self]
    exact hq _ H1 F1 _ r (.int _) hd
  · exact hd.elim
end
/-! ### keys gathered -/
def putk (ks : List Key) (k : Key) : List Key := if (ks.any fun j => decide (j = k)) = true then ks else ks ++ [k]
def kvsT (ks : List Key) : List (Key × V) := ks.map fun k => (k, V.bl true)
theorem kvsT_zip : ∀ ks : List Key, kvsT ks = ks.zip (ks.map fun _ => V.bl true)
  | [] => rfl
  | k :: ks => by
    show (k, V.bl true) :: kvsT ks = _
    rw [kvsT_zip ks]; rfl
theorem kvsT_put (ks : List Key) (k : Key) : putK (kvsT ks) k (.bl true) = kvsT (putk ks k) := by
  have e : ((kvsT ks).any fun kv => decide (kv.1 = k)) = ks.any fun j => decide (j = k) := by
    unfold kvsT
    rw [List.any_map]; rfl
  unfold putK putk
  rw [e]
  split
  · unfold kvsT
    rw [List.map_map]
    apply List.map_congr_left
    intro j _
    show (if j = k then (j, V.bl true) else (j, V.bl true)) = (j, V.bl true)
    split <;> rfl
  · unfold kvsT
    rw [List.map_append]; rfl
theorem kvsT_len (ks : List Key) : (kvsT ks).length = ks.length := List.length_map ..
theorem isAllT {K : PySem.W.Frag} {F : Hp} : ∀ ks : List Key, IsAll K F (ks.map fun _ => V.bl true) (ks.map fun _ => D.bl true)
  | [] => .nil
  | _ :: ks => .cons (.bl true) (isAllT ks)
/-- the turns of: for t in ..: if test: name[key] = True -/
def kL (i : Nat) (t : FG) (ft : FT) (fk : FE) (d : DEnds) (p : Addr) : List D → List Key → Ro → Prop
  | [], ks, ρ => ρ[i]? = some (some (.ref p)) ∧ d.nx (ρ.set i (some (.dic ks (ks.map fun _ => .bl true))))
  | a :: r, ks, ρ => t a ρ fun ρ1 => ρ1[i]? = some (some (.ref p)) ∧ ft ρ1 (fun b => if b = true then fk ρ1 (fun z => match z with | .int k => ks.length < LN ∧ kL i t ft fk d p r (putk ks (.inl k)) ρ1 | _ => False) d.x else kL i t ft fk d p r ks ρ1) d.x
def fKinds (i : Nat) (it : FI) (t : FG) (ft : FT) (fk : FE) : FS := fun ρ d => i < ρ.length ∧ ∀ p : Addr, it (ρ.set i (some (.ref p))) (fun ds => kL i t ft fk d p ds [] (ρ.set i (some (.ref p)))) d.x
theorem LN_size {n : Nat} (h : n < LN) : n < sizeLine := Nat.lt_of_lt_of_le h (Nat.le_of_lt (LN_lt (Nat.le_refl _)))
section
variable {X : Cx} {g : Gd} {E : XK} {k : Bool} {mb : List Nat} {iter tg c key o : Expr} {fi : FI} {t : FG} {ft : FT} {fk : FE} {pos pos1 pos2 pos3 pos4 pos5 : Pos} {i j : Nat} {x : Str}
theorem Rel.kfree {K : PySem.W.Frag} {g : Gd} {H0 F0 H F : Hp} {σ : L2.St} {ρ : Ro} (R : Rel K g H0 F0 [] σ H F ρ) {p : Addr} {ks : List Key} (hi : ρ[i]? = some (some (.ref p))) (h : H p = some (.dK (kvsT ks))) (h0 : H0 p = none) (hF : F p = none) :
    Rel K g H0 F0 [] σ H (upd F p (.dK (kvsT ks))) (ρ.set i (some (.dic ks (ks.map fun _ => .bl true)))) := by
  have ex : Ex F (upd F p (.dK (kvsT ks))) := upd_ex hF
  refine ⟨R.fr.freeze h h0 hF, by rw [List.length_set]; exact R.len, fun j d hj hm => ?_, fun _ => 0, (fun i hi => by cases hi), (fun i hi => by cases hi)⟩
  rcases set_get hj with ⟨rfl, hd⟩ | ⟨_, hj⟩
  · cases hd
    obtain ⟨v, e1, e2⟩ := R.vals j _ hi hm
    cases e2
    refine ⟨_, e1, .dic (xs := ks.map fun _ => V.bl true) ?_ (by rw [List.length_map]) (isAllT ks)⟩
    rw [upd_same, kvsT_zip]
  · obtain ⟨v, e1, e2⟩ := R.vals j d hj hm
    exact ⟨v, e1, e2.up ex⟩
theorem Rel.kput {K : PySem.W.Frag} {g : Gd} {H0 F0 H F : Hp} {σ : L2.St} {ρ : Ro} (R : Rel K g H0 F0 [] σ H F ρ) {p : Addr} {u : HO} (h0 : H0 p = none) (hF : F p = none) (hu : ∀ xs, u ≠ .tup xs := by intro _ z; cases z) :
    Rel K g H0 F0 [] σ (upd H p u) F ρ := ⟨R.fr.write h0 hF hu, R.len, R.vals, fun _ => 0, (fun i hi => by cases hi), (fun i hi => by cases hi)⟩
theorem dss_kinds {ss : List Stmt} {f' : FS} {m' : List Nat} (hN : X.N.Nodup) (hx0 : X.N[i]? = some x) (hx : Loc X.env.scope x) (hu : X.A.units + 1 < cLine)
    (hp : PassesOwn (model X.prog X.w) X.A X.env X.xe) (hc : X.calm = true) (hi : DI X g E [] tg iter fi) (hg : DG X g [] [] tg t) (ht : DT X g E [] c ft) (ho : PE X o (tVar i)) (hk : DE X g E [] key fk) (hr : DSs X g E k mb [] m' ss f')
    (hs1 : swapsWith (.Dict [] [] pos1) (some (.Name x pos2)) pos3.line X.env = pure false := by rfl) (hf : X.fn x = true ∨ X.env.scope.names.lookup x = some .local := by first | exact .inl rfl | exact .inr rfl | assumption)
    (hs2 : swapsWith (.Constant (.bool true) j pos4) (some (.Subscript o key pos5)) pos.line X.env = pure false := by rfl)
    (hs : ∀ x, foldedSetIterable iter X.env x = pure x := by intro _; rfl) {pos6 pos7 : Pos} :
    DSs X g E k mb [] m' (.Assign [.Name x pos2] (.Dict [] [] pos1) pos3 :: .For tg iter [.If c [.Assign [.Subscript o key pos5] (.Constant (.bool true) j pos4) pos] [] pos6] [] pos7 :: ss) (fSeq (fKinds i fi t ft fk) f') :=
  PSsimp (pss_cons (ps_set hN hx0 hx pe_dnewK hs1 hf) (pss_cons (ps_for hp hc hi hg (pss_one (ps_if ht (pss_one (ps_dput hu ho hk pe_bl hs2)) pss_nil)) hs) hr)) fun D σ H ⟨H0, F0, F, ρ, d, R, hf, h1, h2, h3, h4, h5⟩ => by
  intro p hp
  obtain ⟨hil, hf⟩ := hf
  have hM := R.fr.freeM hp
  have h0 := R.fr.back hp
  have hF := R.fr.freeF hp
  have r0 := R.fr.newO (o := .dK []) hp
  have R1 : Rel X.K g H0 F0 [] (σ.set i (some (.ref p))) (upd H p (.dK [])) F (ρ.set i (some (.ref p))) := (R.step r0).set (.ref p) hil
  refine ⟨H0, F0, F, _, _, d.x, R1, hf p, fun J H1 F1 ds r1 y hd => ?_, h5.step R1.fr⟩
  have nx : ∀ σ' H' F' ρ', Rel X.K g H0 F0 [] σ' H' F' ρ' → Ex F F' → f' ρ' d → _ := fun σ' H' F' ρ' R' e hf' => (⟨H0, F0, F', ρ', d, R', hf', fun σ2 H2 F2 ρ2 R2 e2 => h1 σ2 H2 F2 ρ2 R2 (e.trans e2), fun σ2 H2 F2 ρ2 R2 e2 => h2 σ2 H2 F2 ρ2 R2 (e.trans e2), fun σ2 H2 F2 ρ2 R2 e2 => h3 σ2 H2 F2 ρ2 R2 (e.trans e2), h4, h5⟩ : tS X.K g E k mb [] m' f' D σ' H')
  refine ⟨fun n mm σ' H' => mm = ds.length - n ∧ n ≤ ds.length ∧ ∃ F' ρ' ks, Rel X.K g H0 F0 [] σ' H' F' ρ' ∧ Ex F1 F' ∧ H' p = some (.dK (kvsT ks)) ∧ F' p = none ∧ kL i t ft fk { d with nx := fun ρ' => f' ρ' d } p (ds.drop n) ks ρ',
    ⟨_, rfl, Nat.zero_le _, F1, _, [], R1.step r1, Ex.refl _, r1.pre p _ hM upd_same, (r1.old p (by rw [upd_same]; exact fun z => nomatch z)).trans hF, hd⟩, ?_⟩
  rintro n mm σ' H' ⟨rfl, hn, F', ρ', ks, R', ex, hHp, hFp, hl⟩
  by_cases hlt : n < ds.length
  · refine .inr ⟨y.go n H' (ex.trans R'.fr.sub) hlt, fun σ2 H2 => ∃ F2 ρ2 ks, Rel X.K g H0 F0 [] σ2 H2 F2 ρ2 ∧ Ex F1 F2 ∧ H2 p = some (.dK (kvsT ks)) ∧ F2 p = none ∧ kL i t ft fk { d with nx := fun ρ' => f' ρ' d } p (ds.drop (n + 1)) ks ρ2,
      fun σ2 H2 ⟨F2, ρ2, ks2, R2, ex2, a1, a2, hl2⟩ => ⟨ds.length - (n + 1), by omega, rfl, hlt, F2, ρ2, ks2, R2, ex2, a1, a2, hl2⟩, fun z H2 hy => ?_⟩
    obtain ⟨F2, r2, is2⟩ := y.yl g n ds[n] H' F' z H2 R'.fr.self ex (List.getElem?_eq_getElem hlt) hy
    rw [List.drop_eq_getElem_cons hlt] at hl
    have R2 := R'.step r2
    have a1 := r2.pre p _ hM hHp
    have a2 : F2 p = none := (r2.old p (by rw [hHp]; exact fun z => nomatch z)).trans hFp
    refine ⟨H0, F0, F2, ρ', ds[n], _, R2, is2, hl, fun σ3 ρ3 R3 hb3 => ?_⟩
    obtain ⟨hi3, hb3⟩ := hb3
    have ex2 : Ex F1 F2 := ex.trans r2.f0
    refine ⟨H0, F0, F2, ρ3, _, d.x, R3, hb3, fun b H4 F4 r4 hb4 => ?_, h5.step R3.fr⟩
    have R4 := R3.step r4
    have b1 := r4.pre p _ hM a1
    have b2 : F4 p = none := (r4.old p (by rw [a1]; exact fun z => nomatch z)).trans a2
    cases b with
    | true =>
      rw [if_pos rfl] at hb4
      refine iteT ?_
      obtain ⟨v, e1, e2⟩ := R4.vals i _ hi3 (fun z => by cases z)
      cases e2
      refine ⟨_, e1, H0, F0, F4, ρ3, _, d.x, R4, hb4, fun v H5 F5 w r5 iw hw => ?_, h5.step R4.fr⟩
      split at hw
      · rename_i kk
        cases iw
        obtain ⟨hlen, hw⟩ := hw
        have c1 := r5.pre p _ hM b1
        have c2 : F5 p = none := (r5.old p (by rw [b1]; exact fun z => nomatch z)).trans b2
        refine ⟨p, _, rfl, DPut.k (k := .inl kk) c1 (LN_size (by rw [kvsT_len]; exact hlen)), F5, ρ3, _, (R4.step r5).kput h0 c2, ex2.trans (r4.f0.trans r5.f0), by rw [upd_same, kvsT_put], c2, hw⟩
      · exact hw.elim
    | false =>
      rw [if_neg Bool.false_ne_true] at hb4
      exact iteF ⟨F4, ρ3, ks, R4, ex2.trans r4.f0, b1, b2, hb4⟩
  · have e : n = ds.length := by omega
    subst e
    rw [List.drop_length] at hl
    obtain ⟨hi3, hl⟩ := hl
    exact .inl ⟨y.stop _ H' (ex.trans R'.fr.sub) (Nat.le_refl _), nx σ' H' _ _ (R'.kfree hi3 hHp h0 hFp) (r1.f0.trans (ex.trans (upd_ex hFp))) hl⟩
end
end DL

/-! DL23: the head's run in pieces: a look at the heap by a tree; the row from what the pieces tell. -/
namespace DL
open PySem PySem.Spec PyProof.Rows L2
inductive OT where
  | nil
  | node (v : Option Obj) (l r : OT)
def splitL : List Obj → List Obj × List Obj
  | [] => ([], [])
  | [x] => ([x], [])
  | x :: y :: r => match splitL r with
    | (a, b) => (x :: a, y :: b)
def bld : Nat → List Obj → OT
  | 0, _ => .nil
  | _ + 1, [] => .nil
  | n + 1, x :: r => match splitL r with
    | (a, b) => .node (some x) (bld n a) (bld n b)
def OT.get : Nat → OT → Nat → Option Obj
  | 0, _, _ => none
  | _ + 1, .nil, _ => none
  | n + 1, .node v l r, i => match Nat.beq i 0 with
    | true => v
    | false => match Nat.beq (i % 2) 1 with
      | true => OT.get n l (i / 2)
      | false => OT.get n r (i / 2 - 1)
theorem split_get : ∀ (r : List Obj), (∀ k, (splitL r).1[k]? = r[2 * k]?) ∧ (∀ k, (splitL r).2[k]? = r[2 * k + 1]?) ∧ (splitL r).1.length ≤ (r.length + 1) / 2 ∧ (splitL r).2.length ≤ r.length / 2
  | [] => ⟨fun k => by simp [splitL], fun k => by simp [splitL], by simp [splitL], by simp [splitL]⟩
  | [x] => ⟨fun k => by cases k with
    | zero => rfl
    | succ k => simp [splitL, Nat.mul_add], fun k => by simp [splitL], by simp [splitL], by simp [splitL]⟩
  | x :: y :: r => by
    obtain ⟨h1, h2, h3, h4⟩ := split_get r
    have e : splitL (x :: y :: r) = (x :: (splitL r).1, y :: (splitL r).2) := rfl
    rw [e]
    refine ⟨fun k => ?_, fun k => ?_, ?_, ?_⟩
    · cases k with
      | zero => rfl
      | succ k =>
        rw [List.getElem?_cons_succ, h1 k, show 2 * (k + 1) = 2 * k + 1 + 1 by omega, List.getElem?_cons_succ, List.getElem?_cons_succ]
    · cases k with
      | zero => rfl
      | succ k =>
        rw [List.getElem?_cons_succ, h2 k, show 2 * (k + 1) + 1 = 2 * k + 1 + 1 + 1 by omega, List.getElem?_cons_succ, List.getElem?_cons_succ]
    · simp only [List.length_cons]; omega
    · simp only [List.length_cons]; omega
theorem get_bld : ∀ (n : Nat) (L : List Obj) (i : Nat), L.length < 2 ^ n → OT.get n (bld n L) i = L[i]?
  | 0, L, i, h => by
    have : L = [] := List.length_eq_zero_iff.mp (by omega)
    subst this
    simp [OT.get]
  | n + 1, [], i, h => by simp [OT.get, bld]
  | n + 1, x :: r, i, h => by
    obtain ⟨h1, h2, h3, h4⟩ := split_get r
    rw [List.length_cons, Nat.pow_succ] at h
    have e : bld (n + 1) (x :: r) = .node (some x) (bld n (splitL r).1) (bld n (splitL r).2) := rfl
    rw [e]
    unfold OT.get
    have bq : ∀ a b : Nat, Nat.beq a b = decide (a = b) := fun a b => by
      by_cases z : a = b
      · subst z; rw [decide_eq_true rfl]; exact Nat.beq_refl a
      · rw [decide_eq_false z]
        cases hb : Nat.beq a b with
        | true => exact absurd (Nat.eq_of_beq_eq_true hb) z
        | false => rfl
    rw [bq, bq]
    by_cases h0 : i = 0
    · subst h0; rfl
    · rw [decide_eq_false h0]
      by_cases p : i % 2 = 1
      · rw [decide_eq_true p]
        dsimp only
        rw [get_bld n _ (i / 2) (by omega), h1]
        obtain ⟨k, rfl⟩ : ∃ k, i = 2 * k + 1 := ⟨i / 2, by omega⟩
        rw [show (2 * k + 1) / 2 = k by omega, List.getElem?_cons_succ]
      · rw [decide_eq_false p]
        dsimp only
        rw [get_bld n _ (i / 2 - 1) (by omega), h2]
        obtain ⟨k, rfl⟩ : ∃ k, i = 2 * k + 1 + 1 := ⟨i / 2 - 1, by omega⟩
        rw [show (2 * k + 1 + 1) / 2 - 1 = k by omega, List.getElem?_cons_succ]
def unf : Option Obj → Option Obj
  | some { cls := _, dict := _, data := Data.freed, slots := _ } => none
  | o => o
/-- what stands at an address, by a tree -/
def gT (h : Heap) (a : Addr) : Option Obj := match Nat.ble h.objs.toList.length 1000000 with
  | true => unf (OT.get 21 (bld 21 h.objs.toList) a)
  | false => h.get? a
theorem gT_eq (h : Heap) (a : Addr) : gT h a = h.get? a := by
  unfold gT
  cases e : Nat.ble h.objs.toList.length 1000000 with
  | false => rfl
  | true =>
    have hl := Nat.le_of_ble_eq_true e
    dsimp only
    rw [get_bld 21 _ _ (Nat.lt_of_le_of_lt hl (by decide))]
    unfold Heap.get?
    rw [Array.getElem?_toList]
    rfl
/-- the look of hookC, by the tree -/
def hookT (n : Nat) (fa : List He.Fa) (fn : List He.DefD) (ex : PySem.W.Frag → Bool) : PySem.W.Hook where
  α := AlC
  obs := fun s => obsC n fa fn ex (gT s.heap)
  val := fun _ => valC fn
  says := fun _ h => ∃ K : PySem.W.Frag, K.In h ∧ He.SaysD fa fn K ∧ ex K = true
  of := fun w s e => (hookC n fa fn ex).of w s (by rw [← obsC_eq (s := s) fun a => gT_eq s.heap a]; exact e)
  keeps := (hookC n fa fn ex).keeps
open PySem.W HandSHeadRun in
theorem head_pieces {r : OpenRow} {q : Program} {H : Hook} {M : Nat} {loose : List PySem.Str} {d : DefRec} {kwd : List (PySem.Str × PySem.Expr)} (left : LeftO r.prog q loose (fun s => xlAt q [] s && recOk r.toRowW.records s) H.obs H.val M true)
    (hdef : defOf q r.name = some (d, kwd)) (hp : r.prog.theDef r.name = some (d.params, d.body, d.scope)) (hk : kwWritten? d.params.kwonlyargs d.params.kw_defaults = some kwd)
    (hwr : (!r.writes || r.records.isEmpty) = true) (k1 : r.wellSaid = true) (ok : (chainsOk q && opensWell r.prog && (frees r.toRowW && r.within.isEmpty)) = true) (hb : r.prog.bare) (hw : r.toRowW.promised)
    (call : WalkO q loose (XL q []) H.says r.toRowW d kwd fun f vs => PySem.call f vs) : r.Holds :=
  holds_open (r := r) (q := q) (loose := loose) (XP := XL q []) (YP := H.says) (d := d) (kwd := kwd) left H.of H.keeps (fun s z => xl_of s (Bool.and_eq_true_iff.mp z).1) XL.keeps hdef hp hk (fun s z => recFacts_of (Bool.and_eq_true_iff.mp z).2) hwr k1 ok hb hw call
end DL

/-! DL24: t[:0:-1] of a tuple. -/
namespace DL
open PySem PySem.Spec PyProof.Rows L2
theorem adjust_back0 (n : Nat) : Builtin.Slice.sliceAdjust none (some 0) (-1) (n : Int) = ((n : Int) - 1, if n = 0 then -1 else 0) := by
  unfold Builtin.Slice.sliceAdjust
  by_cases h : n = 0
  · subst h; simp; decide
  · simp [h]
    omega
theorem places_back0 (n : Nat) : Builtin.Slice.slicePlaces ((n : Int) - 1) (if n = 0 then -1 else 0) (-1) = n - 1 := by
  unfold Builtin.Slice.slicePlaces
  by_cases h : n = 0
  · subst h; simp
  · simp [h]
    omega
theorem pick_back0 (us : List Value) : ((List.range (us.length - 1)).filterMap fun (k : Nat) => us.toArray[(((us.length : Nat) : Int) - 1 + (k : Int) * (-1)).toNat]?) = us.tail.reverse := by
  cases us with
  | nil => rfl
  | cons u us =>
    have h := pick_back us
    simp only [List.length_cons, Nat.add_sub_cancel, List.tail_cons]
    rw [← h]
    refine fm_congr fun k hk => ?_
    have hk := List.mem_range.mp hk
    have e1 : (((us.length + 1 : Nat) : Int) - 1 + (k : Int) * (-1)).toNat = (us.length - 1 - k) + 1 := by omega
    have e2 : (((us.length : Nat) : Int) - 1 + (k : Int) * (-1)).toNat = us.length - 1 - k := by omega
    rw [e1, e2, List.getElem?_toArray, List.getElem?_toArray, List.getElem?_cons_succ]
theorem vals_tail {xs : List V} {us : List Value} (h : Vals xs us) : Vals xs.tail us.tail := by
  cases h with
  | nil => exact .nil
  | cons _ h => exact h
theorem IsAll.tail' {K : PySem.W.Frag} {F : Hp} {vs : List V} {ds : List D} (h : IsAll K F vs ds) : IsAll K F vs.tail ds.tail := by
  cases h with
  | nil => exact .nil
  | cons _ h => exact h
section
variable {prog : Program} {w : World} {A : Around} {E : Value → Shared → Prop} {s : Shared}
theorem applied_back0 {sl : Addr} {vs : Value} {n : Nat} {Q : Int × Int × Nat → Shared → Prop} {vu : Value} (hs : s.heap.IsSliceOf sl .none vu vs) (pu : IsPart vu (some 0)) (ps : IsPart vs (some (-1))) (h : Q ((n : Int) - 1, -1, n - 1) s) :
    wpAny (model prog w) A (Builtin.Slice.sliceApplied (.ref sl) (pure (n : Int))) Q E s := by
  obtain ⟨ob, there, _, flds⟩ := hs
  unfold Builtin.Slice.sliceApplied
  unfold Builtin.Slice.sliceFields
  refine wpAny_bind (wpAny_bind (wpAny_field there flds (x := .none) rfl ?_))
  refine wpAny_bind (wpAny_field there flds (x := vu) rfl ?_)
  refine wpAny_bind (wpAny_field there flds (x := vs) rfl (wpAny_pure ?_))
  refine wpAny_bind (HT.slicePart_ ps ?_)
  show wpAny _ _ (if ((-1 : Int) == 0) = true then _ else _) _ _ s
  rw [if_neg (by decide)]
  refine wpAny_bind (HT.slicePart_ .none ?_)
  refine wpAny_bind (HT.slicePart_ pu ?_)
  refine wpAny_bind (wpAny_pure ?_)
  show wpAny _ _ (match Builtin.Slice.sliceAdjust none (some 0) (-1) (n : Int) with | (lo, hi) => pure (lo, (-1 : Int), Builtin.Slice.slicePlaces lo hi (-1))) _ _ s
  rw [adjust_back0 n]
  show wpAny _ _ (pure ((n : Int) - 1, (-1 : Int), Builtin.Slice.slicePlaces ((n : Int) - 1) (if n = 0 then -1 else 0) (-1))) _ _ s
  rw [places_back0]
  exact wpAny_pure h
/-- t[::-1] of a tuple -/
theorem item_back0 {t sl : Addr} {us : List Value} {vs : Value} {Q : Value → Shared → Prop} (ht : IsTup s.heap t us.toArray) {vu : Value} (hs : s.heap.IsSliceOf sl .none vu vs) (pu : IsPart vu (some 0)) (ps : IsPart vs (some (-1))) (small : us.length ≤ sizeLine)
    (h : Q (.ref s.heap.objs.size) { s with heap := s.heap.push { cls := .type "tuple", data := .seq us.tail.reverse.toArray } }) : wpAny (model prog w) A (getItem (.ref t) (.ref sl)) Q E s := by
  have isS : s.TypeIs (.ref sl) "slice" := let ⟨o, h1, h2, _⟩ := hs; ⟨o, h1, h2⟩
  have fits : sizeOk (.seq us.tail.reverse.toArray) := by
    show us.tail.reverse.toArray.size ≤ sizeLine
    rw [List.size_toArray, List.length_reverse, List.length_tail]; omega
  unfold getItem
  first | refine wpAny_holding ?_ | skip
  first | refine wpAny_bind (wpAny_pure ?_) | skip
  refine wpAny_bind (wpAny_sequenceKey ht.typeIs (by decide) ?_)
  refine wpAny_bind (wpAny_callSpecial?_slot (name := Str.ofString "__getitem__") ht.typeIs PyProof.Rows.slot_tuple_getitem (wpAny_call_entry PyProof.Rows.slot_tuple_getitem ht.typeIs entry_tuple_getitem ?_ (args_tuple_getitem _ _)))
  show wpAny _ _ (Builtin.Tuple.tupleItemsOf (.ref t) >>= _) _ _ s
  refine wpAny_bind (tupleItemsOf_ ht (wpAny_bind (wpAny_typeOf isS ?_)))
  rw [if_pos (by decide)]
  have len : ((us.toArray.size : Nat) : Int) = ((us.length : Nat) : Int) := by rw [List.size_toArray]
  rw [len]
  refine wpAny_bind (applied_back0 hs pu ps ?_)
  have no : ¬ ((((us.length : Nat) : Int) - 1 == 0 && (-1 : Int) == 1 && us.length - 1 == us.toArray.size) = true) := by simp
  show wpAny _ _ (if (((us.length : Nat) : Int) - 1 == 0 && (-1 : Int) == 1 && us.length - 1 == us.toArray.size) = true then _ else _) _ _ s
  rw [if_neg no, pick_back0]
  have fin : wpAny (model prog w) A (pure (Value.ref s.heap.objs.size)) Q E { s with heap := s.heap.push { cls := .type "tuple", data := .seq us.tail.reverse.toArray } } := wpAny_pure h
  exact wpAny_bind (m := Builtin.Tuple.tupleExact _) (wpAny_newObj_type (wpAny_pure ⟨_, rfl, fin⟩) fits)
end
def tRevT0 (K : PySem.W.Frag) (te : TE) : TE := fun σ H Q => te σ H fun x H1 => ∃ a xs, x = .ref a ∧ SqT K H1 a xs ∧ ∀ p, H1 p = none → Q (.ref p) (upd H1 p (.tup xs.tail.reverse))
theorem pe_revT0 {X : Cx} {e : Expr} {te : TE} {k k0 : Nat} {p0 p1 p2 p3 pos : Pos} (he : PE X e te) : PE X (.Subscript e (.Slice none (some (.Constant (.int 0) k0 p0)) (some (.UnaryOp .USub (.Constant (.int 1) k p1) p2)) p3) pos) (tRevT0 X.K te) := by
  refine ⟨fun pins s σ H Q I h => Subscript_ (thn (he.run pins s σ H _ I h) fun v s1 ⟨x, H1, I1, r1, a, xs, ex, hx, q⟩ => ?_)⟩
  subst ex
  cases r1
  refine wpAny_Slice (thn (po_none.run pins s1 σ H1 (fun o H2 => o = none ∧ H2 = H1) I1 ⟨rfl, rfl⟩) fun vl s2 ⟨l, H2, I2, pl, el, e2⟩ => ?_)
  subst el e2
  have mid : PO X (some (.Constant (.int 0) k0 p0)) (tPart (tC (.int 0))) := po_some pe_int
  refine thn (mid.run pins s2 σ H2 (fun o H3 => o = some 0 ∧ H3 = H2) I2 ⟨0, rfl, rfl, rfl⟩) fun vu s3 ⟨u, H3, I3, pu, eu, e3⟩ => ?_
  subst eu e3
  have last : PO X (some (.UnaryOp .USub (.Constant (.int 1) k p1) p2)) (tPart (tUn (rU fun i => .int (-i)) (tC (.int 1)))) := po_some (pe_un un_neg pe_int)
  refine thn (last.run pins s3 σ H3 (fun o H4 => o = some (-1) ∧ H4 = H3) I3 ⟨1, rfl, -1, rfl, rfl, rfl⟩) fun vs s4 ⟨o, H4, I4, ps, eo, e4⟩ => ?_
  subst eo e4
  cases pl
  have I5 : Inv X pins σ H4 { s4 with heap := s4.heap.push { cls := .type "slice", data := .fields #[.none, vu, vs] } } := I4.kept (t' := s4.toks) fun b ob z => Heap.get?_push_of_some _ z
  obtain ⟨us, rel, ht, small⟩ := I5.tuple hx
  show wpAny (model X.prog X.w) X.A (subscriptTail e (.Slice none (some (.Constant (.int 0) k0 p0)) (some (.UnaryOp .USub (.Constant (.int 1) k p1) p2)) p3) (.ref a) (.ref s4.heap.objs.size)) (EP X pins σ Q) X.xe { s4 with heap := s4.heap.push { cls := .type "slice", data := .fields #[.none, vu, vs] } }
  refine tail_any (ops := [.ref a, .ref s4.heap.objs.size]) ht.typeIs (PyProof.Rows.slot_tuple_getitem.lookup) ?_ (by with_unfolding_all rfl)
  refine item_back0 ht (Heap.IsSliceOf.new _ .none vu vs) pu ps (by have := rel.length; omega) ?_
  refine ⟨.ref _, _, I5.laid (t' := s4.toks) (o := .tup xs.tail.reverse) (fun b ob z => Heap.get?_push_of_some _ z) (Nat.le_refl _) ?_, rfl, q _ (I5.hok.fresh (Nat.le_refl _))⟩
  exact ⟨by rw [List.length_reverse, List.length_tail]; have := rel.length; omega, _, vals_tail rel |>.reverse, IsTup.new _ _⟩
/-- t[::-1] -/
def sRevT0 : Sem1T := fun a q _ => match a with | .tup xs => q (.tup xs.tail.reverse) | _ => False
theorem de_revT0 {X : Cx} {g : Gd} {E : XK} {m : List Nat} {e : Expr} {fe : FE} {k k0 : Nat} {p0 p1 p2 p3 pos : Pos} (h : DB X g E m e fe) : DE X g E m (.Subscript e (.Slice none (some (.Constant (.int 0) k0 p0)) (some (.UnaryOp .USub (.Constant (.int 1) k p1) p2)) p3) pos) (f1 sRevT0 fe) :=
  de_1 (r := fun v H Q => ∃ a xs, v = .ref a ∧ SqT X.K H a xs ∧ ∀ p, H p = none → Q (.ref p) (upd H p (.tup xs.tail.reverse))) (pe_revT0 h) fun g E H F v a q x Q r ia hs hq hx => by
  unfold sRevT0 at hs
  split at hs
  · obtain ⟨p, ys, rfl, h1, h2⟩ := ia.tup
    exact ⟨_, _, rfl, r.sub.sqT h1.sqT, fun l hl => hq _ _ (upd F l (.tup ys.tail.reverse)) _ (r.new hl) (.tup (.inl upd_same) (h2.tail'.reverse.up (r.new (o := .tup ys.tail.reverse) hl).f0)) hs⟩
  · exact hs.elim
end DL

/-! DL25: a cheaper look: the module's names and what they name, no address searched for twice. -/
namespace DL
open PySem PySem.Spec PyProof.Rows L2
def refsAt (g : Addr → Option Obj) (a : Addr) : List Addr := match g a with
  | some o => He.refsD o
  | none => []
/-- the module's namespace, what it names, and what this names -/
def asQ (g : Addr → Option Obj) : List Addr := match refsAt g mainGlobals with
  | as => mainGlobals :: (as ++ as.flatMap (refsAt g))
def obsQ (fa : List He.Fa) (fn : List He.DefD) (ex : PySem.W.Frag → Bool) (g : Addr → Option Obj) : AlC := (He.obsD fa fn (He.frG g (asQ g)), ex (He.frG g (asQ g)))
def hookQ (fa : List He.Fa) (fn : List He.DefD) (ex : PySem.W.Frag → Bool) : PySem.W.Hook where
  α := AlC
  obs := fun s => obsQ fa fn ex (gT s.heap)
  val := fun _ => valC fn
  says := fun _ h => ∃ K : PySem.W.Frag, K.In h ∧ He.SaysD fa fn K ∧ ex K = true
  of := fun w s e => by
    have e2 : gT s.heap = s.heap.get? := funext (gT_eq s.heap)
    rw [e2] at e
    exact ⟨_, He.frG_in, congrArg (fun z : AlC => z.1) e, congrArg (fun z : AlC => z.2) e⟩
  keeps := fun _ _ _ ⟨K, hK, c⟩ k => ⟨K, PySem.W.Frag.In.keeps hK k, c⟩
/-- level by level: what classes want -/
def asL (g : Addr → Option Obj) : Nat → List Addr → List Addr
  | 0, as => as
  | n + 1, as => as ++ asL g n (as.flatMap (refsAt g))
def obsL (n : Nat) (fa : List He.Fa) (fn : List He.DefD) (ex : PySem.W.Frag → Bool) (g : Addr → Option Obj) : AlC := (He.obsD fa fn (He.frG g (asL g n [mainGlobals])), ex (He.frG g (asL g n [mainGlobals])))
def hookL (n : Nat) (fa : List He.Fa) (fn : List He.DefD) (ex : PySem.W.Frag → Bool) : PySem.W.Hook where
  α := AlC
  obs := fun s => obsL n fa fn ex (gT s.heap)
  val := fun _ => valC fn
  says := fun _ h => ∃ K : PySem.W.Frag, K.In h ∧ He.SaysD fa fn K ∧ ex K = true
  of := fun w s e => by
    have e2 : gT s.heap = s.heap.get? := funext (gT_eq s.heap)
    rw [e2] at e
    exact ⟨_, He.frG_in, congrArg (fun z : AlC => z.1) e, congrArg (fun z : AlC => z.2) e⟩
  keeps := fun _ _ _ ⟨K, hK, c⟩ k => ⟨K, PySem.W.Frag.In.keeps hK k, c⟩
end DL

/-! DL26: repr of a truth, too. -/
namespace DL
open PySem PySem.Spec PyProof.Rows L2
def boolS (b : Bool) : Str := if b then "True" else "False"
def sReprS : Sem1T := fun a q x => match a with | .bl b => q (.str (boolS b)) | a => sReprT a q x
def rReprS (K : PySem.W.Frag) : List V → Hp → VK → Prop := fun xs H Q => rRepr K xs H Q ∨ ∃ b, xs = [.bl b] ∧ Q (.str (boolS b)) H
section
variable {X : Cx} {g : Gd} {E : XK} {m : List Nat} {a : Expr} {fa : FE} {pos p : Pos}
theorem call_reprS (hG : X.A.guards = some []) (hu : X.A.units + 64 < cLine) : CallR X (.builtin "repr") (rReprS X.K) := by
  intro pins s σ H xs us Q I r h
  rcases h with h | ⟨b, rfl, q⟩
  · exact call_reprD hG hu pins s σ H xs us Q I r h
  · obtain ⟨u, rfl, ru⟩ := vals1 r
    cases ru
    refine PySem.P.repr_of_bool ?_
    exact ⟨.str _, H, I.kept (t' := s.toks + 1) (fun b o e => e), ⟨_, rfl⟩, q⟩
theorem de_reprS (hG : X.A.guards = some []) (hu : X.A.units + 64 < cLine) (hg : Gl X "repr") (hm : X.mg "repr" = none) (ha : DB X g E m a fa) (hb : bootBuiltins "repr" = some (.builtin "repr") := by decide +kernel) (h1 : starEach [a] X.env = (false, eval a X.env) :: starEach [] X.env := by rfl) : DE X g E m (.Call (.Name "repr" p) [a] [] pos) (f1 sReprS fa) :=
  de_1 (r := fun v H Q => rReprS X.K [v] H Q) (pe_callB (call_reprS hG hu) hg hm hb (pa_cons ha pa_nil h1) (he := h1)) fun g E H F v a q x Q r ia hs hq hx => by
  unfold sReprS at hs
  split at hs
  · exact .inr ⟨_, by rw [ia.bl], hq _ H F _ r (.str _) hs⟩
  · obtain ⟨hs0, h1, h2, h3, h4, hs⟩ := hs
    have hz := LN_line (Nat.le_trans (D.shown_len _ h1 h2) h4)
    refine .inl ?_
    split at hs0
    · obtain ⟨p, vs, e, i1, i2⟩ := ia.tup
      exact ⟨p, vs, _, by rw [e], i2.up r.sub, h1, h2, h3, .inl ⟨r.sub.sqT i1.sqT, hz, hq _ H F _ r (.str _) hs⟩⟩
    · obtain ⟨p, vs, e, i1, i2⟩ := ia.lst r.sub
      exact ⟨p, vs, _, by rw [e], i2.up r.sub, h1, h2, h3, .inr ⟨.inl (.inl i1), hz, hq _ H F _ r (.str _) hs⟩⟩
    · exact hs0.elim
end
end DL

/-! DL27: a tuple of any values and the empty one are compared. -/
namespace DL
open PySem PySem.Spec PyProof.Rows L2
/-- ==, neg: !=; of a tuple of any values with the empty one, too -/
def sEqN (neg : Bool) : D → D → (D → Prop) → XD → Prop := fun a b q x => match a, b with
  | .tup xs, .tup [] => q (.bl (neg ^^ decide (xs = [])))
  | a, b => sEq neg a b q x
def rNil (K : PySem.W.Frag) : R2 := fun x y H Q => ∃ p p' vs, x = .ref p ∧ y = .ref p' ∧ SqT K H p vs ∧ SqT K H p' [] ∧ Q (.bl (decide (vs = []))) H
section
variable {X : Cx}
theorem op_eqN (hu : X.A.units < cLine) : OpR X (compareOp .Eq) (rNil X.K) := by
  intro pins s σ H x y v u Q I rx ry h
  obtain ⟨p, p', vs, rfl, rfl, h1, h2, q⟩ := h
  obtain ⟨its, rv, pl, _⟩ := I.tuple h1
  obtain ⟨its2, rv2, pl2, _⟩ := I.tuple h2
  cases rx
  cases ry
  have z2 : its2 = [] := by cases rv2; rfl
  subst z2
  have hs : (its.toArray.size == (([] : List Value).toArray).size) = decide (vs = []) := by
    have hl := rv.length
    by_cases h : vs = []
    · subst h
      have : its = [] := List.length_eq_zero_iff.mp (by simpa using hl.symm)
      subst this
      rw [decide_eq_true rfl]; rfl
    · rw [decide_eq_false h]
      have : its.length ≠ 0 := fun z => h (List.length_eq_zero_iff.mp (by omega))
      simp [this]
  refine SeqAt.eq_tupleAt (items := its.toArray) (items2 := ([] : List Value).toArray) (e := fun _ => true) (show s.heap.IsTuple p its.toArray from pl) (show s.heap.IsTuple p' _ from pl2) hu (fun j h1 h2 => absurd h2 (by simp)) ?_
  have e2 : ((List.range (min its.toArray.size (([] : List Value).toArray).size)).all (fun _ => true) && its.toArray.size == (([] : List Value).toArray).size) = decide (vs = []) := by
    rw [hs]
    have : (List.range (min its.toArray.size (([] : List Value).toArray).size)).all (fun _ => true) = true := by simp
    rw [this, Bool.true_and]
  rw [e2]
  exact ⟨.bl _, H, I, rfl, q⟩
theorem sem_eqN {K : PySem.W.Frag} : Sem2 K (fun x y H Q => (rEq x y H Q ∨ rEqD K x y H Q) ∨ rNil K x y H Q) (sEqN false) := by
  intro g E H F v w a b q x Q r ia ib hs hq hx
  unfold sEqN at hs
  split at hs
  · rename_i xs
    obtain ⟨p, vs, e, i1, i2⟩ := ia.tup
    obtain ⟨p', vs', e', j1, j2⟩ := ib.tup
    have z : vs' = [] := by cases j2; rfl
    subst z
    have l := i2.length
    have d : decide (vs = []) = decide (xs = []) := by
      by_cases h : xs = []
      · subst h
        have : vs = [] := List.length_eq_zero_iff.mp (by simpa using l)
        rw [decide_eq_true this]; rfl
      · rw [decide_eq_false h, decide_eq_false fun z => h (by
          subst z
          exact List.length_eq_zero_iff.mp (by simpa using l.symm))]
    rw [Bool.false_xor] at hs
    refine .inr ⟨p, p', vs, e, e', r.sub.sqT i1.sqT, r.sub.sqT j1.sqT, ?_⟩
    rw [d]
    exact hq _ H F _ r (.bl _) hs
  · exact .inl (sem_eq g E H F v w _ _ q x Q r ia ib hs hq hx)
theorem cd_eqN (hu : X.A.units + 64 < cLine) : CmpD X .Eq (sEqN false) := ⟨_, (op_eq.or (op_eqD hu)).or (op_eqN (by omega)), sem_eqN⟩
theorem ev_eqN (q : D → Prop) (x : XD) (n : Bool) (xs : List D) : sEqN n (.tup xs) (.tup []) q x = q (.bl (n ^^ decide (xs = []))) := by
  cases xs <;> rfl
end
end DL

/-! DL28: a caught error as the argument of a def that tells its classes. -/
namespace DL
open PySem PySem.Spec PyProof.Rows L2
/-- the def f, called with a caught error at a whose dict is dx, hands back d -/
structure FnE (P : Program) (w : World) (K : PySem.W.Frag) (mg : Str → Option Value) (base : Heap) (k : Nat) (f : Addr) (fd : FuncData) (ps : List Str) (a dx : Addr) (oe : Obj) (d : D) : Prop where
  len : ps.length = 1
  run : ∀ (A : Around) (outer : List Env) (s : Shared) (H F : Hp) (args : Args) (us : List Value) (Q : VK), L2H.RoomH k A → L2H.PinOk outer H s (a, oe) → (∃ o, s.heap.get? dx = some o) → Env0 P w K mg base A outer s H → BindsTo s fd args (ps.zip us) → Vals [.ref a] us →
    Fr none H F H F → (∀ u H' F', Fr none H F H' F' → Is K F' u d → Q u H') → codeAny (model P w) A (.call (.ref f) args) (CR CX0 outer P w H s Q (fun _ _ _ => False)) s
section
variable {P : Program} {w : World} {K : PySem.W.Frag} {mg : Str → Option Value} {base : Heap} {f : Addr} {fd : FuncData} {N ps : List Str} {k : Nat} {qual x : Str} {params : Arguments} {body : List Stmt} {scope : Scope} {a dx : Addr} {oe : Obj} {d : D}
/-- the context of its body -/
abbrev cxE (P : Program) (w : World) (K : PySem.W.Frag) (mg : Str → Option Value) (base : Heap) (N : List Str) (qual : Str) (scope : Scope) (f : Addr) (cd : Value) (A : Around) (outer : List Env) (s : Shared) (H : Hp) (p : Addr × Obj) : Cx :=
  L2H.cxH CX0 P w K mg base N qual scope f cd A outer s H (fun _ _ _ => False) p
theorem okE (F : FunD K x qual params body scope [] [] f fd) (S : FnScope N ps scope) (hl : ps.length = 1)
    (hbody : ∀ (cdv : Value) (A : Around) (outer : List Env) (s : Shared) (H : Hp), (∃ o, s.heap.get? dx = some o) →
      ∃ m' fb, DSs (cxE P w K mg base N qual scope f cdv A outer s H (a, oe)) none (fun _ _ _ => False) false [] [] m' body fb ∧ fb (startD N.length [.ref a]) (entry false (fun r => r = d) x0)) :
    FnE P w K mg base (k + 1) f fd ps a dx oe d := by
  obtain ⟨oc, od, dV, kV, doc, pm, an, cdv, ct, osl, rfl, lk, hcd, _, _⟩ := F.ex
  refine ⟨hl, fun A outer s H F args us Q hr hpin hdx e0 hb r fr hq => ?_⟩
  have KX : K.In s.heap := e0.mod.kin.keeps fun b o e => (e0.bs b o e).1
  have lim : s.heap.NoLimit := e0.mod.nolimit.keeps fun b o e => (e0.bs b o e).1
  have hkind : ∀ y ∈ ps.zip us, scope.names.lookup y.1 = some .local ∨ (scope.names.lookup y.1 = some .cell ∧ ((cellsFrom (s.heap.objs.size + 1) scope.names []).lookup y.1).isSome = true) := fun ⟨n, v⟩ hy => by
    rcases S.par n (List.of_mem_zip hy).1 with q | q
    · exact .inl q
    · exact .inr ⟨q, PySem.W.cellsFrom_some _ _ _ (.inl q)⟩
  refine codeAny_call_function hr.depth (KX _ _ lk) rfl S.co S.gen rfl (PySem.W.codeRec_of KX hcd) (hb _ _ _ _ ?_)
  refine wpAny_newFunctionEnv_cells S.kind hkind fun env he s1 y => ?_
  subst he
  refine ⟨lim.keeps y.toInCall.keep, codeAny_func ?_⟩
  obtain ⟨m', fb, ht, hfb⟩ := hbody cdv A outer s H hdx
  have I : Inv (cxE P w K mg base N qual scope f cdv A outer s H (a, oe)) [] (L2.start N [.ref a]) H s1 := L2H.inv_startH S hpin e0 hl.symm r y
  have want : tS K none (fun _ _ _ => False) false [] [] m' fb { nx := fun _ H' => Q .non H', rt := Q } (L2.start N [.ref a]) H :=
    ⟨H, F, F, startD N.length [.ref a], entry false (fun r => r = d) x0, start_rel fr (.cons (.ref a) .nil), hfb, fun σ' H' F' ρ' R _ hn => hq .non H' F' R.fr (by rw [← hn.2]; exact Is.non), fun _ _ _ _ _ _ z => z.elim, fun _ _ _ _ _ _ z => z.elim, fun v H' F' d2 r2 i hd2 => hq v H' F' r2 (by rw [← hd2]; exact i), XE.none⟩
  refine wpAny_mono (ht.run [] s1 (L2.start N [.ref a]) H _ I want) (fun fl s' hs => ?_) fun e s' hs => hs
  have q := flow_end (outer := outer) (P := P) (w := w) (H := H) (s := s) rfl rfl rfl rfl rfl rfl hs
  cases fl <;> exact q
end
/-- such a def as it is called -/
structure CalE (P : Program) (w : World) (K : PySem.W.Frag) (mg : Str → Option Value) (base : Heap) (k : Nat) (x : Str) (ps : List Str) (errs : List Str) (hv : Str → D) (bs : List (List D)) (kbs : List (Nat × List Str × List Nat)) : Prop where
  ex : ∃ (f : Addr) (fd : FuncData), (∀ n ∈ errs, ∀ (a dx : Addr) (oe : Obj), Zc (.ref (He.ga K n)) (some dx) oe → (∃ vs, oe.data = .fields vs) → FnE P w K mg base k f fd ps a dx oe (hv n)) ∧ mg x = some (.ref f) ∧ PySem.W.keepIn K (.ref f) = true ∧
    (∀ dd ∈ bs, ∃ (dvs : List V) (dss : List Value), Binds K fd ps dss ∧ Vals dvs dss ∧ ∀ F, IsAll K F dvs dd) ∧ ∀ t ∈ kbs, KB K fd ps t.1 t.2.1 t.2.2
section
variable {X : Cx} {g : Gd} {i j k : Nat} {a dx : Addr} {oe : Obj} {pn : List (Addr × Obj)} {e : Expr} {t : D} {ps errs : List Str} {hv : Str → D} {kbs : List (Nat × List Str × List Nat)} {x n : Str} {p pos : Pos}
theorem he_callE (C : CalE X.prog X.w X.K X.mg X.base j x ps errs hv [[]] kbs) (hn : n ∈ errs) (hr : Room k X.A) (hz : Zc (.ref (He.ga X.K n)) (some dx) oe) (hf : ∃ vs, oe.data = .fields vs) (hg : Gl (X.suite a ((a, oe) :: pn)) x)
    (ho : PE (X.suite a ((a, oe) :: pn)) e (tVar i)) (hj : j ≤ k := by decide) (hdb : (x == ("__debug__" : Str)) = false := by decide) (he : starEach [e] X.env = (false, eval e X.env) :: starEach [] X.env := by rfl) (hpl : (backTo pos (starEach [] X.env)).any (·.1) = false := by rfl) :
    PE (X.suite a ((a, oe) :: pn)) (.Call (.Name x p) [e] [] pos) (tH X.K g i a dx t (hv n)) := by
  obtain ⟨f, fd, h1, h2, h3, h4, _⟩ := C.ex
  have F := h1 n hn a dx oe hz hf
  obtain ⟨dvs, dss, b1, b2, b3⟩ := h4 [] (List.mem_cons_self ..)
  have e1 := b3 fun _ => none
  cases dvs with
  | cons v vs => cases e1
  | nil =>
  cases b2
  refine ⟨fun pins s σ H Q I ⟨Fh, hI, q⟩ => ?_⟩
  refine wpAny_Call_Name_kw (ld_glob (X := X.suite a ((a, oe) :: pn)) I hg h2 ?_ hdb)
  have ha : PA (X.suite a ((a, oe) :: pn)) [e] (tCons (tVar i) tNil) := pa_cons ho pa_nil he
  refine PySem.W.callWith_K (h₀ := X.base) I.ok.mod.kin h3 (thn (ha.run pos pins s σ H (fun vs H1 => vs = [.ref a] ∧ H1 = H) I ⟨.ref a, hI.slot, rfl, rfl⟩) fun us s1 ⟨vs, H1, I1, r, q1⟩ => ⟨I1.kIn, ?_⟩) he hpl
  obtain ⟨rfl, rfl⟩ := q1
  have hl : us.length = ps.length := by rw [← r.length, F.len]; rfl
  have b := b1 s1 us I1.kIn (by rw [List.append_nil]; exact hl)
  rw [List.append_nil] at b
  have P1 := I1.pin (a, oe) (List.mem_append_left _ List.mem_cons_self)
  have hpin : L2H.PinOk X.stack H1 s1 (a, oe) := ⟨P1.1, P1.2.1, fun hm => (List.mem_cons.mp (I1.stkSub a hm)).elim P1.2.2.1 P1.2.2.2.1, P1.2.2.2.2⟩
  have hdx : ∃ o, s1.heap.get? dx = some o := by
    obtain ⟨v, ex, _⟩ := hI.th
    obtain ⟨mA, ns, _⟩ : ObjOk X.prog X.w H1 s1.heap dx (.xd _) := I1.hok dx _ ex
    obtain ⟨od, ho, _⟩ := lookIn_ns ns
    exact ⟨od, ho⟩
  have hr2 : L2H.RoomH j (X.A.mark (some (.ref a))) := L2H.roomH_of (A := X.A) (hr.mono hj) |> fun z => ⟨z.dp, z.un⟩
  refine wpAny_call (codeAny_mono (F.run (X.A.mark (some (.ref a))) X.stack s1 H1 Fh ⟨us, []⟩ us Q hr2 hpin hdx I1.env0 b r hI.fr.bare fun u H' F' rr is => q u H' F' (hI.fr.lift rr) is) fun rs s' hq => ?_)
  cases rs with
  | error e => exact False.elim hq
  | ok fl =>
    cases fl with
    | ret u => exact I1.after hq
    | next => exact False.elim hq
    | brk => exact False.elim hq
    | cont => exact False.elim hq
end
/-! ### isinstance(e, C) in such a def -/
def fIsaE (i : Nat) (a : Addr) (b : Bool) : FE := fun ρ q _ => ρ[i]? = some (some (.ref a)) ∧ q (.bl b)
section
variable {X : Cx} {g : Gd} {E : XK} {m : List Nat} {i : Nat} {a dx C C2 : Addr} {oe : Obj} {e e2 : Expr} {p pos : Pos} {b : Bool}
theorem call_isaE (T : ErrX X.K C) (hz : Zc (.ref C) (some dx) oe) (hf : ∃ vs, oe.data = .fields vs) (hk : PySem.W.kitOne X.K (.ref C) (.ref C2) = some b) (hp : (a, oe) ∈ X.pn) (hdx : ∃ o, X.s_0.heap.get? dx = some o) (hx : X.ex = []) :
    CallR X (.builtin "isinstance") (fun xs H Q => xs = [.ref a, .ref C2] ∧ Q (.bl b) H) := by
  intro pins s σ H xs us Q I r h
  obtain ⟨rfl, q⟩ := h
  obtain ⟨u1, r1, r'⟩ : ∃ u, RelV (.ref a) u ∧ ∃ r', us = u :: r' ∧ Vals [.ref C2] r' := by cases r with | cons h1 h2 => exact ⟨_, h1, _, rfl, h2⟩
  obtain ⟨l, rfl, r2⟩ := r'
  obtain ⟨u2, rfl, r3⟩ : ∃ u, l = [u] ∧ RelV (.ref C2) u := by cases r2 with | cons h1 h2 => cases h2; exact ⟨_, rfl, h1⟩
  obtain rfl : u1 = Value.ref a := r1
  obtain rfl : u2 = Value.ref C2 := r3
  obtain ⟨got, _⟩ := I.pin (a, oe) (List.mem_append_left _ hp)
  obtain ⟨vs, hv⟩ := hf
  obtain ⟨o0, h0⟩ := hdx
  obtain ⟨od, ho⟩ := I.base.there dx o0 h0 (by rw [hx]; exact List.not_mem_nil)
  have J : PySem.W.InstAt s.heap a oe C (some od) := ⟨got, hz.1, by unfold PySem.W.notCls; rw [hv] <;> rfl, by rw [hz.2]; exact ho⟩
  exact PySem.W.kia_one (T.ko a oe (some od)) I.kIn J hk (fun z => nomatch z) fun tk => ⟨.bl b, H, I.kept (t' := tk) fun _ _ z => z, rfl, q⟩
theorem de_isaE (T : ErrX X.K C) (hz : Zc (.ref C) (some dx) oe) (hf : ∃ vs, oe.data = .fields vs) (hk : PySem.W.kitOne X.K (.ref C) (.ref C2) = some b) (hdx : ∃ o, X.s_0.heap.get? dx = some o) (hg : Gl X "isinstance") (hm : X.mg "isinstance" = none)
    (ho : PE X e (tVar i)) (hc : PE X e2 (tC (.ref C2))) (hp : (a, oe) ∈ X.pn := by exact List.mem_cons_self) (hx : X.ex = [] := by rfl) (hnm : i ∉ m := by decide) (hb : bootBuiltins "isinstance" = some (.builtin "isinstance") := by decide +kernel)
    (h1 : starEach [e, e2] X.env = (false, eval e X.env) :: starEach [e2] X.env := by rfl) (h2 : starEach [e2] X.env = (false, eval e2 X.env) :: starEach [] X.env := by rfl) (hpl : (backTo pos (starEach [e2] X.env)).any (·.1) = false := by rfl) :
    DE X g E m (.Call (.Name "isinstance" p) [e, e2] [] pos) (fIsaE i a b) :=
  PEimp (pe_callB (X := X) (call_isaE T hz hf hk hp hdx hx) hg hm hb (pa_cons ho (pa_cons hc pa_nil h2) h1) (he := h1) (hpl := hpl)) fun σ H Q ⟨H0, F0, F, ρ, q, x, R, hq, hQ, hx⟩ => by
    obtain ⟨e1, e2⟩ := hq
    obtain ⟨v, s1, s2⟩ := R.vals i _ e1 hnm
    cases s2
    exact ⟨.ref a, s1, rfl, hQ _ H F _ R.fr.self (.bl b) e2⟩
end
/-! ### dict([(i, True), ..]) -/
def pairT (i : Int) : D := .tup [.int i, .bl true]
def keysT (l : List Int) : List Key := l.foldl (fun ks i => putk ks (.inl i)) []
def sDictT : Sem1T := fun a q _ => match a with | .lst ds => ∃ l : List Int, ds = l.map pairT ∧ q (.dic (keysT l) ((keysT l).map fun _ => .bl true)) | _ => False
theorem mergeK_T : ∀ (l : List Int) (ks : List Key), mergeK (kvsT ks) (l.map fun i => ((.inl i : Key), V.bl true)) = kvsT (l.foldl (fun ks i => putk ks (.inl i)) ks)
  | [], ks => rfl
  | i :: l, ks => by
    show mergeK (putK (kvsT ks) (.inl i) (.bl true)) (l.map fun i => ((.inl i : Key), V.bl true)) = _
    rw [kvsT_put]
    exact mergeK_T l (putk ks (.inl i))
theorem is_pairT {K : PySem.W.Frag} {F : Hp} {v : V} {i : Int} (h : Is K F v (pairT i)) : ∃ a, v = .ref a ∧ SqT K F a [.int i, .bl true] := by
  cases h with
  | tup h1 h2 =>
    cases h2 with
    | cons a b =>
      cases a
      cases b with
      | cons c d => cases c; cases d; exact ⟨_, rfl, h1.sqT⟩
theorem pairs_T {K : PySem.W.Frag} {F H : Hp} (s : Ex F H) : ∀ (l : List Int) (vs : List V), IsAll K F vs (l.map pairT) → ∃ ps : List Addr, vs = ps.map V.ref ∧ Paired (fun p (kv : Key × V) => SqT K H p [kV kv.1, kv.2]) ps (l.map fun i => ((.inl i : Key), V.bl true))
  | [], _, h => by cases h; exact ⟨[], rfl, .nil⟩
  | i :: l, _, h => by
    cases h with
    | cons a b =>
      obtain ⟨p, rfl, h1⟩ := is_pairT a
      obtain ⟨ps, rfl, h2⟩ := pairs_T s l _ b
      exact ⟨p :: ps, rfl, .cons (s.sqT h1) h2⟩
section
variable {X : Cx} {g : Gd} {E : XK} {m : List Nat} {a : Expr} {fa : FE} {pos p : Pos}
theorem de_dictT (hc : X.calm = true) (hg : Gl X "dict") (hm : X.mg "dict" = none) (ha : DB X g E m a fa) (hb : bootBuiltins "dict" = some (.type "dict") := by decide +kernel) (h1 : starEach [a] X.env = (false, eval a X.env) :: starEach [] X.env := by rfl) : DE X g E m (.Call (.Name "dict" p) [a] [] pos) (f1 sDictT fa) :=
  de_1 (pe_callTy (call_dictP hc) hg hm hb (pa_cons ha pa_nil h1) (he := h1)) fun g E H F v a q x Q r ia hs hq hx => by
    unfold sDictT at hs
    split at hs
    · obtain ⟨l, rfl, hs⟩ := hs
      obtain ⟨p, ys, rfl, h1, h2⟩ := ia.lst' r.sub
      obtain ⟨ps, rfl, h3⟩ := pairs_T r.sub l ys h2
      refine ⟨p, ps, _, rfl, h1, h3, fun b hb => ?_⟩
      rw [show ([] : List (Key × V)) = kvsT [] from rfl, mergeK_T l []]
      exact hq _ _ (upd F b _) _ (r.new hb) (.dic (by rw [upd_same]; exact congrArg (fun z => some (HO.dK z)) (kvsT_zip _)) (List.length_map ..).symm (isAllT _)) hs
    · exact hs.elim
end
theorem ev_dictT {q : D → Prop} {x : XD} (l : List Int) (h : q (.dic (keysT l) ((keysT l).map fun _ => .bl true))) : sDictT (.lst (l.map pairT)) q x := ⟨l, rfl, h⟩
end DL

/-! DL29: t[::2] and t[1::2] of a tuple. -/
namespace DL
open PySem PySem.Spec PyProof.Rows L2
def sec {α : Type} : List α → List α
  | [] => []
  | [a] => [a]
  | a :: _ :: r => a :: sec r
theorem sec_length {α : Type} : ∀ l : List α, (sec l).length ≤ l.length
  | [] => Nat.le_refl _
  | [a] => Nat.le_refl _
  | a :: b :: r => by
    have := sec_length r
    show (sec r).length + 1 ≤ r.length + 1 + 1
    omega
theorem sec_mem {α : Type} {x : α} : ∀ l : List α, x ∈ sec l → x ∈ l
  | [], h => h
  | [a], h => h
  | a :: b :: r, h => by
    rcases List.mem_cons.mp h with e | h
    · rw [e]; exact List.mem_cons_self ..
    · exact List.mem_cons_of_mem _ (List.mem_cons_of_mem _ (sec_mem r h))
theorem sec_map {α β : Type} (f : α → β) : ∀ l : List α, sec (l.map f) = (sec l).map f
  | [] => rfl
  | [a] => rfl
  | a :: b :: r => by
    show f a :: sec (r.map f) = _
    rw [sec_map f r]; rfl
theorem sec_pick {α : Type} : ∀ l : List α, ((List.range ((l.length + 1) / 2)).filterMap fun k => l[2 * k]?) = sec l
  | [] => by simp [sec]
  | [a] => by
    have e : ([a].length + 1) / 2 = 1 := by simp
    rw [e]
    simp [List.range_succ, sec]
  | a :: b :: r => by
    have e : ((a :: b :: r).length + 1) / 2 = (r.length + 1) / 2 + 1 := by simp only [List.length_cons]; omega
    rw [e, List.range_succ_eq_map, List.filterMap_cons, List.filterMap_map]
    show a :: _ = a :: sec r
    rw [← sec_pick r]
    congr 1
theorem adj_sec {st : Option Int} {o : Nat} (h : (st = none ∧ o = 0) ∨ (st = some 1 ∧ o = 1)) (n : Nat) : Builtin.Slice.sliceAdjust st none 2 (n : Int) = (((min o n : Nat) : Int), (n : Int)) := by
  unfold Builtin.Slice.sliceAdjust
  rcases h with ⟨rfl, rfl⟩ | ⟨rfl, rfl⟩
  · simp
  · simp
    omega
theorem places_sec (o n : Nat) : Builtin.Slice.slicePlaces ((min o n : Nat) : Int) (n : Int) 2 = (n - o + 1) / 2 := by
  unfold Builtin.Slice.slicePlaces
  rw [if_pos (by decide)]
  by_cases h : o < n
  · rw [if_pos (by omega)]
    omega
  · rw [if_neg (by omega)]
    omega
theorem pick_sec (o : Nat) (us : List Value) : ((List.range ((us.length - o + 1) / 2)).filterMap fun (k : Nat) => us.toArray[(((min o us.length : Nat) : Int) + (k : Int) * 2).toNat]?) = sec (us.drop o) := by
  rw [← sec_pick, List.length_drop]
  refine fm_congr fun k hk => ?_
  have hk := List.mem_range.mp hk
  have e1 : (((min o us.length : Nat) : Int) + (k : Int) * 2).toNat = o + 2 * k := by omega
  rw [e1, List.getElem?_toArray, List.getElem?_drop]
theorem vals_sec : ∀ {xs : List V} {us : List Value}, Vals xs us → Vals (sec xs) (sec us)
  | _, _, .nil => .nil
  | _, _, .cons h .nil => .cons h .nil
  | _, _, .cons h (.cons _ t) => .cons h (vals_sec t)
theorem vals_drop : ∀ {xs : List V} {us : List Value} (o : Nat), Vals xs us → Vals (xs.drop o) (us.drop o)
  | _, _, 0, h => by rw [List.drop_zero, List.drop_zero]; exact h
  | _, _, o + 1, .nil => .nil
  | _, _, o + 1, .cons _ t => vals_drop o t
theorem IsAll.sec {K : PySem.W.Frag} {F : Hp} : ∀ {vs : List V} {ds : List D}, IsAll K F vs ds → IsAll K F (DL.sec vs) (DL.sec ds)
  | _, _, .nil => .nil
  | _, _, .cons h .nil => .cons h .nil
  | _, _, .cons h (.cons _ t) => .cons h (IsAll.sec t)
theorem IsAll.drop' {K : PySem.W.Frag} {F : Hp} : ∀ {vs : List V} {ds : List D} (o : Nat), IsAll K F vs ds → IsAll K F (vs.drop o) (ds.drop o)
  | _, _, 0, h => by rw [List.drop_zero, List.drop_zero]; exact h
  | _, _, o + 1, .nil => .nil
  | _, _, o + 1, .cons _ t => IsAll.drop' o t
section
variable {prog : Program} {w : World} {A : Around} {E : Value → Shared → Prop} {s : Shared} {st : Option Int} {o : Nat}
theorem applied_sec (ho : (st = none ∧ o = 0) ∨ (st = some 1 ∧ o = 1)) {sl : Addr} {vl vs : Value} {n : Nat} {Q : Int × Int × Nat → Shared → Prop} (hs : s.heap.IsSliceOf sl vl .none vs) (pl : IsPart vl st) (ps : IsPart vs (some 2)) (h : Q (((min o n : Nat) : Int), 2, (n - o + 1) / 2) s) :
    wpAny (model prog w) A (Builtin.Slice.sliceApplied (.ref sl) (pure (n : Int))) Q E s := by
  obtain ⟨ob, there, _, flds⟩ := hs
  unfold Builtin.Slice.sliceApplied
  unfold Builtin.Slice.sliceFields
  refine wpAny_bind (wpAny_bind (wpAny_field there flds (x := vl) rfl ?_))
  refine wpAny_bind (wpAny_field there flds (x := .none) rfl ?_)
  refine wpAny_bind (wpAny_field there flds (x := vs) rfl (wpAny_pure ?_))
  refine wpAny_bind (HT.slicePart_ ps ?_)
  show wpAny _ _ (if ((2 : Int) == 0) = true then _ else _) _ _ s
  rw [if_neg (by decide)]
  refine wpAny_bind (HT.slicePart_ pl ?_)
  refine wpAny_bind (HT.slicePart_ .none ?_)
  refine wpAny_bind (wpAny_pure ?_)
  show wpAny _ _ (match Builtin.Slice.sliceAdjust st none 2 (n : Int) with | (lo, hi) => pure (lo, (2 : Int), Builtin.Slice.slicePlaces lo hi 2)) _ _ s
  rw [adj_sec ho n]
  show wpAny _ _ (pure (((min o n : Nat) : Int), (2 : Int), Builtin.Slice.slicePlaces ((min o n : Nat) : Int) (n : Int) 2)) _ _ s
  rw [places_sec]
  exact wpAny_pure h
theorem item_sec (ho : (st = none ∧ o = 0) ∨ (st = some 1 ∧ o = 1)) {t sl : Addr} {us : List Value} {vl vs : Value} {Q : Value → Shared → Prop} (ht : IsTup s.heap t us.toArray) (hs : s.heap.IsSliceOf sl vl .none vs) (pl : IsPart vl st) (ps : IsPart vs (some 2)) (small : us.length ≤ sizeLine)
    (h : Q (.ref s.heap.objs.size) { s with heap := s.heap.push { cls := .type "tuple", data := .seq (sec (us.drop o)).toArray } }) : wpAny (model prog w) A (getItem (.ref t) (.ref sl)) Q E s := by
  have isS : s.TypeIs (.ref sl) "slice" := let ⟨o, h1, h2, _⟩ := hs; ⟨o, h1, h2⟩
  have fits : sizeOk (.seq (sec (us.drop o)).toArray) := by
    show (sec (us.drop o)).toArray.size ≤ sizeLine
    have := sec_length (us.drop o)
    rw [List.length_drop] at this
    rw [List.size_toArray]; omega
  unfold getItem
  first | refine wpAny_holding ?_ | skip
  first | refine wpAny_bind (wpAny_pure ?_) | skip
  refine wpAny_bind (wpAny_sequenceKey ht.typeIs (by decide) ?_)
  refine wpAny_bind (wpAny_callSpecial?_slot (name := Str.ofString "__getitem__") ht.typeIs PyProof.Rows.slot_tuple_getitem (wpAny_call_entry PyProof.Rows.slot_tuple_getitem ht.typeIs entry_tuple_getitem ?_ (args_tuple_getitem _ _)))
  show wpAny _ _ (Builtin.Tuple.tupleItemsOf (.ref t) >>= _) _ _ s
  refine wpAny_bind (tupleItemsOf_ ht (wpAny_bind (wpAny_typeOf isS ?_)))
  rw [if_pos (by decide)]
  have len : ((us.toArray.size : Nat) : Int) = ((us.length : Nat) : Int) := by rw [List.size_toArray]
  rw [len]
  refine wpAny_bind (applied_sec ho hs pl ps ?_)
  have no : ¬ ((((min o us.length : Nat) : Int) == 0 && (2 : Int) == 1 && (us.length - o + 1) / 2 == us.toArray.size) = true) := by simp
  show wpAny _ _ (if (((min o us.length : Nat) : Int) == 0 && (2 : Int) == 1 && (us.length - o + 1) / 2 == us.toArray.size) = true then _ else _) _ _ s
  rw [if_neg no, pick_sec]
  have fin : wpAny (model prog w) A (pure (Value.ref s.heap.objs.size)) Q E { s with heap := s.heap.push { cls := .type "tuple", data := .seq (sec (us.drop o)).toArray } } := wpAny_pure h
  exact wpAny_bind (m := Builtin.Tuple.tupleExact _) (wpAny_newObj_type (wpAny_pure ⟨_, rfl, fin⟩) fits)
end
def tSec (K : PySem.W.Frag) (o : Nat) (te : TE) : TE := fun σ H Q => te σ H fun x H1 => ∃ a xs, x = .ref a ∧ SqT K H1 a xs ∧ ∀ p, H1 p = none → Q (.ref p) (upd H1 p (.tup (sec (xs.drop o))))
theorem pe_sec0 {X : Cx} {e : Expr} {te : TE} {k2 : Nat} {p2 p3 pos : Pos} (he : PE X e te) : PE X (.Subscript e (.Slice none none (some (.Constant (.int 2) k2 p2)) p3) pos) (tSec X.K 0 te) := by
  refine ⟨fun pins s σ H Q I h => Subscript_ (thn (he.run pins s σ H _ I h) fun v s1 ⟨x, H1, I1, r1, a, xs, ex, hx, q⟩ => ?_)⟩
  subst ex
  cases r1
  refine wpAny_Slice (thn (po_none.run pins s1 σ H1 (fun o H2 => o = none ∧ H2 = H1) I1 ⟨rfl, rfl⟩) fun vl s2 ⟨l, H2, I2, pl, el, e2⟩ => ?_)
  subst el e2
  refine thn (po_none.run pins s2 σ H2 (fun o H3 => o = none ∧ H3 = H2) I2 ⟨rfl, rfl⟩) fun vu s3 ⟨u, H3, I3, pu, eu, e3⟩ => ?_
  subst eu e3
  have last : PO X (some (.Constant (.int 2) k2 p2)) (tPart (tC (.int 2))) := po_some pe_int
  refine thn (last.run pins s3 σ H3 (fun o H4 => o = some 2 ∧ H4 = H3) I3 ⟨2, rfl, rfl, rfl⟩) fun vs s4 ⟨o, H4, I4, ps, eo, e4⟩ => ?_
  subst eo e4
  cases pu
  have I5 : Inv X pins σ H4 { s4 with heap := s4.heap.push { cls := .type "slice", data := .fields #[vl, .none, vs] } } := I4.kept (t' := s4.toks) fun b ob z => Heap.get?_push_of_some _ z
  obtain ⟨us, rel, ht, small⟩ := I5.tuple hx
  show wpAny (model X.prog X.w) X.A (subscriptTail e (.Slice none none (some (.Constant (.int 2) k2 p2)) p3) (.ref a) (.ref s4.heap.objs.size)) (EP X pins σ Q) X.xe { s4 with heap := s4.heap.push { cls := .type "slice", data := .fields #[vl, .none, vs] } }
  refine tail_any (ops := [.ref a, .ref s4.heap.objs.size]) ht.typeIs (PyProof.Rows.slot_tuple_getitem.lookup) ?_ (by with_unfolding_all rfl)
  refine item_sec (o := 0) (.inl ⟨rfl, rfl⟩) ht (Heap.IsSliceOf.new _ vl .none vs) pl ps (by have := rel.length; omega) ?_
  refine ⟨.ref _, _, I5.laid (t' := s4.toks) (o := .tup (sec (xs.drop 0))) (fun b ob z => Heap.get?_push_of_some _ z) (Nat.le_refl _) ?_, rfl, q _ (I5.hok.fresh (Nat.le_refl _))⟩
  exact ⟨by have := sec_length (xs.drop 0); rw [List.length_drop] at this; have := rel.length; omega, _, vals_sec (vals_drop 0 rel), IsTup.new _ _⟩
theorem pe_sec1 {X : Cx} {e : Expr} {te : TE} {k2 k1 : Nat} {p2 p1 p3 pos : Pos} (he : PE X e te) : PE X (.Subscript e (.Slice (some (.Constant (.int 1) k1 p1)) none (some (.Constant (.int 2) k2 p2)) p3) pos) (tSec X.K 1 te) := by
  refine ⟨fun pins s σ H Q I h => Subscript_ (thn (he.run pins s σ H _ I h) fun v s1 ⟨x, H1, I1, r1, a, xs, ex, hx, q⟩ => ?_)⟩
  subst ex
  cases r1
  have lop : PO X (some (.Constant (.int 1) k1 p1)) (tPart (tC (.int 1))) := po_some pe_int
  refine wpAny_Slice (thn (lop.run pins s1 σ H1 (fun o H2 => o = some 1 ∧ H2 = H1) I1 ⟨1, rfl, rfl, rfl⟩) fun vl s2 ⟨l, H2, I2, pl, el, e2⟩ => ?_)
  subst el e2
  refine thn (po_none.run pins s2 σ H2 (fun o H3 => o = none ∧ H3 = H2) I2 ⟨rfl, rfl⟩) fun vu s3 ⟨u, H3, I3, pu, eu, e3⟩ => ?_
  subst eu e3
  have last : PO X (some (.Constant (.int 2) k2 p2)) (tPart (tC (.int 2))) := po_some pe_int
  refine thn (last.run pins s3 σ H3 (fun o H4 => o = some 2 ∧ H4 = H3) I3 ⟨2, rfl, rfl, rfl⟩) fun vs s4 ⟨o, H4, I4, ps, eo, e4⟩ => ?_
  subst eo e4
  cases pu
  have I5 : Inv X pins σ H4 { s4 with heap := s4.heap.push { cls := .type "slice", data := .fields #[vl, .none, vs] } } := I4.kept (t' := s4.toks) fun b ob z => Heap.get?_push_of_some _ z
  obtain ⟨us, rel, ht, small⟩ := I5.tuple hx
  show wpAny (model X.prog X.w) X.A (subscriptTail e (.Slice (some (.Constant (.int 1) k1 p1)) none (some (.Constant (.int 2) k2 p2)) p3) (.ref a) (.ref s4.heap.objs.size)) (EP X pins σ Q) X.xe { s4 with heap := s4.heap.push { cls := .type "slice", data := .fields #[vl, .none, vs] } }
  refine tail_any (ops := [.ref a, .ref s4.heap.objs.size]) ht.typeIs (PyProof.Rows.slot_tuple_getitem.lookup) ?_ (by with_unfolding_all rfl)
  refine item_sec (o := 1) (.inr ⟨rfl, rfl⟩) ht (Heap.IsSliceOf.new _ vl .none vs) pl ps (by have := rel.length; omega) ?_
  refine ⟨.ref _, _, I5.laid (t' := s4.toks) (o := .tup (sec (xs.drop 1))) (fun b ob z => Heap.get?_push_of_some _ z) (Nat.le_refl _) ?_, rfl, q _ (I5.hok.fresh (Nat.le_refl _))⟩
  exact ⟨by have := sec_length (xs.drop 1); rw [List.length_drop] at this; have := rel.length; omega, _, vals_sec (vals_drop 1 rel), IsTup.new _ _⟩
def sSec (o : Nat) : Sem1T := fun a q _ => match a with | .tup xs => q (.tup (sec (xs.drop o))) | _ => False
theorem de_sec0 {X : Cx} {g : Gd} {E : XK} {m : List Nat} {e : Expr} {fe : FE} {k2 : Nat} {p2 p3 pos : Pos} (h : DB X g E m e fe) : DE X g E m (.Subscript e (.Slice none none (some (.Constant (.int 2) k2 p2)) p3) pos) (f1 (sSec 0) fe) :=
  de_1 (r := fun v H Q => ∃ a xs, v = .ref a ∧ SqT X.K H a xs ∧ ∀ p, H p = none → Q (.ref p) (upd H p (.tup (sec (xs.drop 0))))) (pe_sec0 h) fun g E H F v a q x Q r ia hs hq hx => by
  unfold sSec at hs
  split at hs
  · obtain ⟨p, ys, rfl, h1, h2⟩ := ia.tup
    exact ⟨_, _, rfl, r.sub.sqT h1.sqT, fun l hl => hq _ _ (upd F l (.tup (sec (ys.drop 0)))) _ (r.new hl) (.tup (.inl upd_same) ((h2.drop' 0).sec.up (r.new (o := .tup (sec (ys.drop 0))) hl).f0)) hs⟩
  · exact hs.elim
theorem de_sec1 {X : Cx} {g : Gd} {E : XK} {m : List Nat} {e : Expr} {fe : FE} {k2 k1 : Nat} {p2 p1 p3 pos : Pos} (h : DB X g E m e fe) : DE X g E m (.Subscript e (.Slice (some (.Constant (.int 1) k1 p1)) none (some (.Constant (.int 2) k2 p2)) p3) pos) (f1 (sSec 1) fe) :=
  de_1 (r := fun v H Q => ∃ a xs, v = .ref a ∧ SqT X.K H a xs ∧ ∀ p, H p = none → Q (.ref p) (upd H p (.tup (sec (xs.drop 1))))) (pe_sec1 h) fun g E H F v a q x Q r ia hs hq hx => by
  unfold sSec at hs
  split at hs
  · obtain ⟨p, ys, rfl, h1, h2⟩ := ia.tup
    exact ⟨_, _, rfl, r.sub.sqT h1.sqT, fun l hl => hq _ _ (upd F l (.tup (sec (ys.drop 1)))) _ (r.new hl) (.tup (.inl upd_same) ((h2.drop' 1).sec.up (r.new (o := .tup (sec (ys.drop 1))) hl).f0)) hs⟩
  · exact hs.elim
end DL

/-! DL30: dicts of ours whose keys are pairs of integers: {}, d[k] = v, d[k], d.get(k, v), list(d). -/
namespace DL
open PySem L2

/-- a pair of integers as a key -/
def keyD : D → Option (List Key)
  | .tup [.int i, .int j] => some [.inl i, .inl j]
  | _ => none
theorem keyD_is {K : PySem.W.Frag} {F : Hp} {v : V} {a : D} {k : List Key} (h : Is K F v a) (e : keyD a = some k) : ∃ b, v = .ref b ∧ F b = some (.tup (k.map kV)) := by
  unfold keyD at e
  split at e
  · cases e
    cases h with
    | tup h1 h2 =>
      cases h2 with
      | cons a1 a2 => cases a2 with
        | cons a3 a4 =>
          cases a4; cases a1; cases a3
          exact ⟨_, rfl, h1.pair⟩
  · cases e
/-- the keys are pairs of integers -/
def Kp (ks : List (List Key)) : Prop := ∀ k ∈ ks, ∃ i j : Int, k = [.inl i, .inl j]
def keyE : List Key → D
  | [.inl i, .inl j] => .tup [.int i, .int j]
  | _ => .non
theorem keyD_E {a : D} {k : List Key} (e : keyD a = some k) : keyE k = a ∧ ∃ i j : Int, k = [.inl i, .inl j] := by
  unfold keyD at e
  split at e
  · cases e
    exact ⟨rfl, _, _, rfl⟩
  · cases e
/-- what stands at a key -/
def getD2 : List (List Key) → List D → List Key → Option D
  | a :: ks, d :: vs, k => if a = k then some d else getD2 ks vs k
  | _, _, _ => none
def hasK (ks : List (List Key)) (k : List Key) : Bool := ks.any fun a => decide (a = k)
def setD2 : List (List Key) → List D → List Key → D → List D
  | a :: ks, d :: vs, k, v => (if a = k then v else d) :: setD2 ks vs k v
  | _, vs, _, _ => vs
def putD2 (ks : List (List Key)) (vs : List D) (k : List Key) (v : D) : D := if hasK ks k = true then .dtu ks (setD2 ks vs k v) else .dtu (ks ++ [k]) (vs ++ [v])
section
variable {K : PySem.W.Frag} {F : Hp}
theorem get_is : ∀ {ks : List (List Key)} {ws : List V} {vs : List D} {k : List Key}, ks.length = ws.length → IsAll K F ws vs → (∀ d, getD2 ks vs k = some d → ∃ w, valV (ks.zip ws) k = some w ∧ Is K F w d) ∧ (getD2 ks vs k = none → valV (ks.zip ws) k = none)
  | [], ws, vs, k, hl, h => ⟨fun d e => (by cases e), fun _ => rfl⟩
  | a :: ks, [], vs, k, hl, h => by cases hl
  | a :: ks, w :: ws, [], k, hl, h => by cases h
  | a :: ks, w :: ws, d :: vs, k, hl, h => by
    cases h with
    | cons h1 h2 =>
      have ih := get_is (k := k) (Nat.succ.inj hl) h2
      by_cases e : a = k
      · have q1 : valV ((a :: ks).zip (w :: ws)) k = some w := valV_pos (p := (a, w)) e
        have q2 : getD2 (a :: ks) (d :: vs) k = some d := if_pos e
        exact ⟨fun d' hd => ⟨w, q1, by rw [q2] at hd; cases hd; exact h1⟩, fun hd => by rw [q2] at hd; cases hd⟩
      · have q1 : valV ((a :: ks).zip (w :: ws)) k = valV (ks.zip ws) k := valV_neg (p := (a, w)) e
        have q2 : getD2 (a :: ks) (d :: vs) k = getD2 ks vs k := if_neg e
        rw [q1, q2]
        exact ih
theorem any_zip {α : Type} : ∀ {ks : List (List Key)} {ws : List α} {k : List Key}, ks.length = ws.length → (ks.zip ws).any (fun kv => decide (kv.1 = k)) = hasK ks k
  | [], _, k, _ => rfl
  | a :: ks, [], k, hl => by cases hl
  | a :: ks, w :: ws, k, hl => by
    have ih := any_zip (k := k) (Nat.succ.inj hl)
    rw [List.zip_cons_cons, List.any_cons, ih] <;> rfl
theorem map_zip1 {α : Type} {f : List Key × α → α} : ∀ {ks : List (List Key)} {ws : List α}, ks.length = ws.length → (ks.zip ws).map (fun kv => (kv.1, f kv)) = ks.zip ((ks.zip ws).map f)
  | [], _, _ => rfl
  | a :: ks, [], hl => by cases hl
  | a :: ks, w :: ws, hl => by
    rw [List.zip_cons_cons, List.map_cons, List.map_cons, map_zip1 (Nat.succ.inj hl)] <;> rfl
theorem set_is {k : List Key} {w : V} {d : D} (hw : Is K F w d) : ∀ {ks : List (List Key)} {ws : List V} {vs : List D}, ks.length = ws.length → IsAll K F ws vs → IsAll K F ((ks.zip ws).map fun kv => if kv.1 = k then w else kv.2) (setD2 ks vs k d)
  | [], [], vs, hl, h => h
  | [], w0 :: ws, vs, hl, h => by cases hl
  | a :: ks, [], vs, hl, h => by cases hl
  | a :: ks, w0 :: ws, [], hl, h => by cases h
  | a :: ks, w0 :: ws, d0 :: vs, hl, h => by
    cases h with
    | cons h1 h2 =>
      refine .cons ?_ (set_is hw (Nat.succ.inj hl) h2)
      show Is K F (if a = k then w else w0) (if a = k then d else d0)
      by_cases q : a = k
      · rw [if_pos q, if_pos q]; exact hw
      · rw [if_neg q, if_neg q]; exact h1
theorem put_is {ks : List (List Key)} {ws : List V} {vs : List D} {k : List Key} {w : V} {d : D} (hl : ks.length = ws.length) (h : IsAll K F ws vs) (hw : Is K F w d) :
    Own K F (.dT (putK (ks.zip ws) k w)) (putD2 ks vs k d) := by
  unfold putK putD2
  rw [any_zip hl]
  by_cases m : hasK ks k = true
  · rw [if_pos m, if_pos m]
    have e : (ks.zip ws).map (fun kv => if kv.1 = k then (kv.1, w) else kv) = ks.zip ((ks.zip ws).map fun kv => if kv.1 = k then w else kv.2) := by
      rw [← map_zip1 hl]
      apply List.map_congr_left
      intro kv _
      by_cases q : kv.1 = k
      · rw [if_pos q, if_pos q]
      · rw [if_neg q, if_neg q]
    rw [e]
    exact .dtu (by rw [List.length_map, List.length_zip, hl, Nat.min_self]) (set_is hw hl h)
  · rw [if_neg m, if_neg m]
    have e : ks.zip ws ++ [(k, w)] = (ks ++ [k]).zip (ws ++ [w]) := by
      rw [List.zip_append hl] <;> rfl
    rw [e]
    exact .dtu (by rw [List.length_append, List.length_append, hl] <;> rfl) (h.append (.cons hw .nil))
end
theorem IsB.dtu {K : PySem.W.Frag} {g : Gd} {F H : Hp} {v : V} {ks : List (List Key)} {vs : List D} (h : IsB K g F H v (.dtu ks vs)) (s : Ex F H) : ∃ a ws, v = .ref a ∧ H a = some (.dT (ks.zip ws)) ∧ ks.length = ws.length ∧ IsAll K F ws vs := by
  rcases h with h | ⟨a, o, rfl, h1, _, h3⟩
  · cases h with
    | dtu h1 h0 h2 => exact ⟨_, _, rfl, s _ _ h1, h0, h2⟩
  · cases h3 with
    | dtu h0 h2 => exact ⟨_, _, rfl, h1, h0, h2⟩
section
variable {X : Cx} {g : Gd} {E : XK} {kd : Bool} {mb m : List Nat} {o e key value dflt : Expr} {fe fo fk fv fd : FE} {pos pos' p : Pos}
/-- {} -/
theorem dfo_dict : DFO X g E m (.Dict [] [] pos) (fK (.dtu [] [])) := PEimp pe_dnewT fun σ H Q ⟨H0, F0, F, ρ, q, x, R, hf, hq, hx⟩ => fun p hp =>
  hq p _ F _ _ (R.fr.self.newO hp) hp upd_same (R.fr.freeF hp) (.dtu (ks := []) (vs := []) rfl .nil) hf
/-- name = a new list or dict, ours -/
theorem ds_setO {i : Nat} {x : Str} {pos' : Pos} (hN : X.N.Nodup) (hi : X.N[i]? = some x) (hx : Loc X.env.scope x) (he : DFO X g E m e fe) (hs : swapsWith e (some (.Name x pos')) pos.line X.env = pure false := by rfl) (hf : X.fn x = true ∨ X.env.scope.names.lookup x = some .local := by first | exact .inl rfl | exact .inr rfl | assumption) :
    DS X g E kd mb m (i :: del m i) (.Assign [.Name x pos'] e pos) (fAsg fe (fName i)) := PSimp (ps_set hN hi hx he hs hf) fun D σ H ⟨H0, F0, F, ρ, d, R, hf, h1, h2, h3, h4, h5⟩ =>
  ⟨H0, F0, F, ρ, _, d.x, R, hf, fun p H' F' vs xs q n e1 e2 ha hd => h1 _ H' F' _ ((R.step q).setW hd.1 e1 e2 (R.fr.back n) ha fun j v ej hj z => by
    subst z
    obtain ⟨oa, q1, _⟩ := R.own
    obtain ⟨vs', xs', e1', _, e3', _⟩ := q1 j hj
    rw [ej] at e1'
    cases e1'
    rw [n] at e3'
    cases e3') q.f0 hd.2, h5.step R.fr⟩
/-- name[key] = value, the name a dict of ours -/
def fDPut (i : Nat) (fk fv : FE) : FS := fun ρ d => fv ρ (fun a => fk ρ (fun k => match keyD k, ρ[i]? with | some kk, some (some (.dtu ks vs)) => ks.length < LN ∧ d.nx (ρ.set i (some (putD2 ks vs kk a))) | _, _ => False) d.x) d.x
theorem ds_dput {i : Nat} (hu : X.A.units + 1 < cLine) (ho : PE X o (tVar i)) (hm : m.contains i = true) (hk : DE X g E m key fk) (hv : DE X g E m value fv)
    (hs : swapsWith value (some (.Subscript o key pos')) pos.line X.env = pure false := by rfl) :
    DS X g E kd mb m m (.Assign [.Subscript o key pos'] value pos) (fDPut i fk fv) :=
  PSimp (ps_dput hu ho hk hv hs) fun D σ H ⟨H0, F0, F, ρ, d, R, hf, n1, n2, n3, n4, n5⟩ => by
  refine ⟨H0, F0, F, ρ, _, d.x, R, hf, fun v H1 F1 a r is hd => ?_, n5.step R.fr⟩
  have R1 := R.step r
  obtain ⟨p0, vs0, xs0, s1, s2, s3, _⟩ := R1.mutW (i := i) (by simpa using hm)
  refine ⟨_, s1, H0, F0, F1, ρ, _, d.x, R1, hd, fun k H2 F2 kk r2 is2 hd2 => ?_, (n5.step R.fr).step r⟩
  split at hd2
  · rename_i kx ks vs ek ey
    obtain ⟨q, ob, xs, q1, q2, q3, q4, q5⟩ := (R1.step r2).mutW (i := i) (by simpa using hm)
    rw [s1] at q1
    cases q1
    rw [ey] at q2
    cases q2
    obtain ⟨b, rfl, hb⟩ := keyD_is is2 ek
    cases q4 with
    | dtu hl ha =>
      rename_i ws
      refine ⟨_, _, rfl, DPut.t q3 ((R1.step r2).fr.sub _ _ hb) ?_, n1 σ _ F2 _ (q5 _ _ (put_is hl ha (is.up r2.f0))) (r.trans r2).f0 hd2.2⟩
      rw [List.length_zip, hl, Nat.min_self, ← hl]
      exact LN_lt (Nat.le_of_lt hd2.1)
  · exact hd2.elim
/-- name[key] -/
def sDGet : D → D → (D → Prop) → XD → Prop := fun a k q _ => match a, keyD k with
  | .dtu ks vs, some kk => (match getD2 ks vs kk with | some d => q d | none => False)
  | _, _ => False
theorem de_dget (hu : X.A.units + 1 < cLine) (ho : DB X g E m o fo) (hk : DE X g E m key fk) (hs : NoSl key) : DE X g E m (.Subscript o key pos) (f2 sDGet fo fk) :=
  PEimp (pe_dget hu ho hk hs) fun σ H Q ⟨H0, F0, F, ρ, q, x, R, hf, hq, hx⟩ => by
  refine ⟨H0, F0, F, ρ, _, x, R, hf, fun v H1 F1 a r is hd => ?_, hx⟩
  refine ⟨H0, F0, F1, ρ, _, x, R.step r, hd, fun k H2 F2 kk r2 is2 hd2 => ?_, hx.step r⟩
  have R2 := (R.step r).step r2
  unfold sDGet at hd2
  split at hd2
  · rename_i ks vs kx ek
    obtain ⟨a, ws, rfl, h1, hl, ha⟩ := (is.up r2).dtu R2.fr.sub
    obtain ⟨b, rfl, hb⟩ := keyD_is is2 ek
    split at hd2
    · rename_i d hd3
      obtain ⟨w, hw, iw⟩ := (get_is hl ha).1 d hd3
      exact ⟨_, w, rfl, hw ▸ DGet.t h1 (R2.fr.sub _ _ hb), hq w H2 F2 d (r.trans r2) iw hd2⟩
    · exact hd2.elim
  · exact hd2.elim
/-- name.get(key, dflt) -/
def fDGet2 (fo fk fd : FE) : FE := fun ρ q x => fo ρ (fun a => (∃ ks vs, a = .dtu ks vs) ∧ fk ρ (fun k => fd ρ (fun z => match a, keyD k with
  | .dtu ks vs, some kk => q ((getD2 ks vs kk).getD z)
  | _, _ => False) x) x) x
theorem de_dget2 {apos cpos : Pos} (hu : X.A.units + 1 < cLine) (ho : DB X g E m o fo) (hk : DE X g E m key fk) (hd : DE X g E m dflt fd) (hm : M2 X o "get" apos key dflt cpos) :
    DE X g E m (.Call (.Attribute o "get" apos) [key, dflt] [] cpos) (fDGet2 fo fk fd) :=
  PEimp (pe_dget2 hu ho hk hd hm) fun σ H Q ⟨H0, F0, F, ρ, q, x, R, hf, hq, hx⟩ => by
  refine ⟨H0, F0, F, ρ, _, x, R, hf, fun v H1 F1 a r is hd => ?_, hx⟩
  obtain ⟨⟨ks, vs, rfl⟩, hd⟩ := hd
  obtain ⟨a0, ws0, rfl, g1, gl, ga⟩ := is.dtu (R.step r).fr.sub
  refine ⟨a0, rfl, .inr ⟨_, .inl g1⟩, ?_⟩
  refine ⟨H0, F0, F1, ρ, _, x, R.step r, hd, fun k H2 F2 kk r2 is2 hd2 => ?_, hx.step r⟩
  refine ⟨H0, F0, F2, ρ, _, x, (R.step r).step r2, hd2, fun z H3 F3 dz r3 is3 hd3 => ?_, (hx.step r).step r2⟩
  have R3 := ((R.step r).step r2).step r3
  split at hd3
  · rename_i ks' vs' kx e0 ek
    cases e0
    obtain ⟨a, ws, e1, h1, hl, ha⟩ := ((is.up r2).up r3).dtu R3.fr.sub
    cases e1
    obtain ⟨b, rfl, hb⟩ := keyD_is (is2.up r3.f0) ek
    cases hg : getD2 ks vs kx with
    | none =>
      have e2 := (get_is hl ha).2 hg
      rw [hg] at hd3
      refine ⟨none, e2 ▸ DGet.t h1 (R3.fr.sub _ _ hb), hq z H3 F3 dz (r.trans (r2.trans r3)) is3 hd3⟩
    | some d =>
      obtain ⟨w, hw, iw⟩ := (get_is hl ha).1 d hg
      rw [hg] at hd3
      exact ⟨some w, hw ▸ DGet.t h1 (R3.fr.sub _ _ hb), hq w H3 F3 d (r.trans (r2.trans r3)) iw hd3⟩
  · exact hd3.elim
/-- the keys as data -/
theorem keys_is {K : PySem.W.Frag} {F H : Hp} (tp : ∀ a xs, H a = some (.tup xs) → F a = some (.tup xs)) : ∀ {ks : List (List Key)} {ws : List V} {bs : List Addr}, ks.length = ws.length → Kp ks → IsKeys H (ks.zip ws) bs → IsAll K F (bs.map V.ref) (ks.map keyE)
  | [], _, bs, hl, hk, h => by cases h; exact .nil
  | a :: ks, [], bs, hl, hk, h => by cases hl
  | a :: ks, w :: ws, bs, hl, hk, h => by
    cases h with
    | cons h1 h2 =>
      obtain ⟨i, j, rfl⟩ := hk a (List.mem_cons_self ..)
      exact .cons (.tup (.inl (tp _ _ h1)) (.cons (.int i) (.cons (.int j) .nil))) (keys_is tp (Nat.succ.inj hl) (fun k hk' => hk k (List.mem_cons_of_mem _ hk')) h2)
/-- list(name) -/
def sKeys : D → (D → Prop) → XD → Prop := fun a q _ => match a with | .dtu ks _ => Kp ks ∧ q (.lst (ks.map keyE)) | _ => False
theorem df_keys (hc : X.calm = true) (hg : Gl X "list") (hm : X.mg "list" = none) (ha : DB X g E m e fe) (hb : bootBuiltins "list" = some (.type "list") := by decide +kernel) (h1 : starEach [e] X.env = (false, eval e X.env) :: starEach [] X.env := by rfl) : DF X g E m (.Call (.Name "list" p) [e] [] pos) (f1 sKeys fe) :=
  df_1 (r := fun v H Q => ∃ d kvs, [v] = [V.ref d] ∧ Rd H d (.dT kvs) ∧ ∀ p bs, H p = none → IsKeys H kvs bs → Q (.ref p) (upd H p (.lst (bs.map V.ref)))) (pe_callTy (call_list_dT hc) hg hm hb (pa_cons ha pa_nil h1) (he := h1)) fun g E H F v a q x Q r ia hs hq hx => by
  unfold sKeys at hs
  split at hs
  · obtain ⟨a, ws, rfl, h1, hl, h2⟩ := ia.dtu r.sub
    exact ⟨a, _, rfl, .inl h1, fun l bs hn hb => hq l _ F _ _ (r.newO hn) hn upd_same (r.freeF hn) (keys_is r.tp hl hs.1 hb) hs.2⟩
  · exact hs.elim
/-- a, b = x, y where a name of them is a cell: by a tuple -/
theorem Mx.tup {K : PySem.W.Frag} {H1 H F : Hp} {ks : List Bool} {vs : List V} {ds : List D} {ps : List Addr} (h : Mx K H1 H F ks vs ds ps) {p : Addr} {o : HO} (hp : H p = none) (hF : F p = none) : Mx K H1 (upd H p o) (upd F p o) ks vs ds ps := by
  induction h with
  | nil => exact .nil
  | dat h1 _ ih => exact .dat (h1.up (upd_ex hF)) ih
  | own h1 h2 h3 h4 h5 _ ih =>
    have ne := ne_of_none h1 hp
    exact .own (by rw [upd_ne ne]; exact h1) (h2.up (upd_ex hF)) (by rw [upd_ne ne]; exact h3) h4 h5 ih
theorem ds_asgM2 {a b : Expr} {fs : FA} {k1 k2 : Bool} {i j : Nat} {x y : Str} {px py pt : Pos} {kt k2' pt2} (hc : X.calm = true) (hN : X.N.Nodup) (hi : X.N[i]? = some x) (hj : X.N[j]? = some y) (hx : Loc X.env.scope x) (hy : Loc X.env.scope y) (ha : DM X g E m [k1, k2] [a, b] fs)
    (hfx : X.fn x = true ∨ X.env.scope.names.lookup x = some .local := by first | exact .inl rfl | exact .inr rfl | assumption) (hfy : X.fn y = true ∨ X.env.scope.names.lookup y = some .local := by first | exact .inl rfl | exact .inr rfl | assumption)
    (hs : swapsWithSole [.Tuple [.Name x px, .Name y py] kt pt] (.Tuple [a, b] k2' pt2) pos.line X.env = pure false := by rfl) (hw : swappedStores [.Tuple [.Name x px, .Name y py] kt pt] (.Tuple [a, b] k2' pt2) X.env = pure none := by rfl)
    (h1 : (assignEach [.Tuple [.Name x px, .Name y py] kt pt] X.env).map (·.2) = [assign (.Tuple [.Name x px, .Name y py] kt pt) X.env] := by rfl)
    (hn : (assignEach [.Name x px, .Name y py] X.env).length = 2 := by rfl) (hst : (assignEach [.Name x px, .Name y py] X.env).findIdx? (·.1) = none := by rfl)
    (h2 : (assignEach (.Name x px :: [.Name y py]) X.env).map (·.2) = assign (.Name x px) X.env :: (assignEach [.Name y py] X.env).map (·.2) := by rfl)
    (h3 : (assignEach (.Name y py :: []) X.env).map (·.2) = assign (.Name y py) X.env :: (assignEach [] X.env).map (·.2) := by rfl) :
    DS X g E kd mb m (stM k2 j (stM k1 i m)) (.Assign [.Tuple [.Name x px, .Name y py] kt pt] (.Tuple [a, b] k2' pt2) pos) (fPar2 i j fs) :=
  PSimp (ps_asg (pe_tup ha) (pg_tup hc (pgs_cons (pg_name hN hi hx hfx) (pgs_cons (pg_name hN hj hy hfy) pgs_nil h3) h2) hn hst) hs hw h1) fun D σ H ⟨H0, F0, F, ρ, d, R, hf, n1, n2, n3, n4, n5⟩ =>
  ⟨H0, F0, F, ρ, _, d.x, R, hf, fun vs H1 F1 ds ps r1 i1 hd => by
    split at hd
    · obtain ⟨v, w, rfl⟩ : ∃ v w, vs = [v, w] := by
        have hl := i1.len
        match vs, hl with
        | [v, w], _ => exact ⟨v, w, rfl⟩
      refine ⟨Nat.le_of_ble_eq_true rfl, fun p hp => ⟨p, [v, w], rfl, .inl (.inl upd_same), rfl, ?_⟩⟩
      have av := R.av0 i1.fresh
      have r2 := (R.step r1).fr.new (o := .tup [v, w]) hp
      obtain ⟨R1, ps1, i2, av1⟩ := ((R.step r1).step r2).st1 (i := i) (i1.tup (o := .tup [v, w]) hp ((R.step r1).fr.freeF hp)) (fun p hp => R.fr.back hp) hd.1 av
      obtain ⟨R2, _⟩ := R1.st1 (i := j) i2 (fun p hp => R.fr.back hp) (by rw [List.length_set]; exact hd.2.1) av1
      exact ⟨_, _, rfl, _, _, rfl, rfl, n1 _ _ _ _ R2 (r1.trans r2).f0 hd.2.2⟩
    · exact hd.elim, n5.step R.fr⟩
end
end DL

/-! DL31: repr of an integer, too. -/
namespace DL
open PySem PySem.Spec PyProof.Rows L2
def sReprI : Sem1T := fun a q x => match a with | .int i => i.natAbs.log2 < 1920 ∧ q (.str (toString i)) | a => sReprS a q x
def rReprI (K : PySem.W.Frag) : List V → Hp → VK → Prop := fun xs H Q => rReprS K xs H Q ∨ ∃ i : Int, xs = [.int i] ∧ i.natAbs.log2 < 1920 ∧ Q (.str (toString i)) H
section
variable {X : Cx} {g : Gd} {E : XK} {m : List Nat} {a : Expr} {fa : FE} {pos p : Pos}
theorem call_reprI (hG : X.A.guards = some []) (hu : X.A.units + 64 < cLine) : CallR X (.builtin "repr") (rReprI X.K) := by
  intro pins s σ H xs us Q I r h
  rcases h with h | ⟨b, rfl, hl, q⟩
  · exact call_reprS hG hu pins s σ H xs us Q I r h
  · obtain ⟨u, rfl, t, rfl⟩ := vals1 r
    exact PySem.P.repr_of_int hl ⟨.str _, H, I.tok _, ⟨_, rfl⟩, q⟩
theorem de_reprI (hG : X.A.guards = some []) (hu : X.A.units + 64 < cLine) (hg : Gl X "repr") (hm : X.mg "repr" = none) (ha : DB X g E m a fa) (hb : bootBuiltins "repr" = some (.builtin "repr") := by decide +kernel) (h1 : starEach [a] X.env = (false, eval a X.env) :: starEach [] X.env := by rfl) : DE X g E m (.Call (.Name "repr" p) [a] [] pos) (f1 sReprI fa) :=
  de_1 (r := fun v H Q => rReprI X.K [v] H Q) (pe_callB (call_reprI hG hu) hg hm hb (pa_cons ha pa_nil h1) (he := h1)) fun g E H F v a q x Q r ia hs hq hx => by
  unfold sReprI at hs
  split at hs
  · exact .inr ⟨_, by rw [ia.int], hs.1, hq _ H F _ r (.str _) hs.2⟩
  · refine .inl ?_
    unfold sReprS at hs
    split at hs
    · exact .inr ⟨_, by rw [ia.bl], hq _ H F _ r (.str _) hs⟩
    · obtain ⟨hs0, h1, h2, h3, h4, hs⟩ := hs
      have hz := LN_line (Nat.le_trans (D.shown_len _ h1 h2) h4)
      refine .inl ?_
      split at hs0
      · obtain ⟨p, vs, e, i1, i2⟩ := ia.tup
        exact ⟨p, vs, _, by rw [e], i2.up r.sub, h1, h2, h3, .inl ⟨r.sub.sqT i1.sqT, hz, hq _ H F _ r (.str _) hs⟩⟩
      · obtain ⟨p, vs, e, i1, i2⟩ := ia.lst r.sub
        exact ⟨p, vs, _, by rw [e], i2.up r.sub, h1, h2, h3, .inr ⟨.inl (.inl i1), hz, hq _ H F _ r (.str _) hs⟩⟩
      · exact hs0.elim
end
end DL

/-! DL32: name[e] += e2 of a list of ours; a target = name.pop(). -/
namespace DL
open PySem PySem.Spec PyProof.Rows L2
section
variable {X : Cx}
theorem get_list : PGet X (rIxL X.K) := by
  intro pins s σ H x y v u Q I rx ry h
  obtain ⟨p, xs, i, z, rfl, rfl, hq, he, q⟩ := h
  cases rx
  obtain ⟨t, rfl⟩ := ry
  obtain ⟨its, r, pl, hz⟩ := I.list hq
  obtain ⟨j, h1, h2, h3, h4, h5⟩ := atI_get he
  obtain ⟨w, ew, rw'⟩ := r.get h2
  have hl := r.length
  have hn := line63
  have fin : EP X pins σ Q w s := ⟨z, H, I, rw', q⟩
  by_cases h0 : 0 ≤ i
  · have hj : i.toNat = j := by
      rw [seqIndex_of h0 h5] at h1
      exact Option.some.inj h1
    exact wpAny_getItem_list pl.isList h0 (by omega) (by rw [hj]; simpa using ew) fin
  · have hj : (i + (its.toArray.size : Int)).toNat = j := by
      rw [seqIndex_neg (by omega) h4] at h1
      rw [List.size_toArray, ← hl]
      exact Option.some.inj h1
    exact wpAny_getItem_list_neg pl.isList (by omega) (by rw [List.size_toArray] <;> omega) (by omega) (by rw [hj]; simpa using ew) fin
def fAugP (i : Nat) (h : Int → Int → Int) (fi fv : FE) : FS := fun ρ d => fi ρ (fun k => match k, ρ[i]? with
  | .int kz, some (some (.lst xs)) => ∃ j a, ixN xs.length kz = some j ∧ xs[j]? = some (.int a) ∧ fv ρ (fun b => match b with | .int b => d.nx (ρ.set i (some (.lst (xs.set j (.int (h a b)))))) | _ => False) d.x
  | _, _ => False) d.x
variable {g : Gd} {E : XK} {kd : Bool} {mb m m' : List Nat} {e e2 : Expr} {fe fe2 : FE} {pos p apos cpos : Pos}
theorem ds_augput {i : Nat} {o : Expr} {op : Operator} {h : Int → Int → Int} {ti : TIp} (ho : PE X o (tVar i)) (hm : m.contains i = true) (hi : DE X g E m e fe) (hop : PIp X op ti) (hti : ti = ipI h) (hv : DE X g E m e2 fe2)
    (ha : ∀ ov iv new, augStore e ov iv new = (do holding [new, ov, iv] (setItem ov iv new); release [new, ov, iv] []; pure .next) := by intros; rfl) : DS X g E kd mb m m (.AugAssign (.Subscript o e p) op e2 pos) (fAugP i h fe fe2) :=
  PSimp (ps_augS ho hi get_list hv hop set_list ha) fun D σ H ⟨H0, F0, F, ρ, d, R, hf, n1, n2, n3, n4, n5⟩ => by
  subst hti
  obtain ⟨p0, vs0, xs0, s1, s2, s3, _⟩ := R.mutW (i := i) (by simpa using hm)
  refine ⟨_, s1, H0, F0, F, ρ, _, d.x, R, hf, fun k H1 F1 kk r is hd => ?_, n5.step R.fr⟩
  have R1 := R.step r
  split at hd
  · rename_i kz xs2 e9
    obtain ⟨j, a, hj, ha', hd⟩ := hd
    obtain ⟨q, vs, xs, q1, q2, q3, q4, q5⟩ := R1.mut (i := i) (by simpa using hm) e9
    rw [s1] at q1
    cases q1
    rw [e9] at q2
    cases q2
    cases is
    obtain ⟨va, hva, isa⟩ := q4.get ha'
    cases isa
    have hat : atI vs kz = some (.int a) := by
      unfold atI
      rw [q4.length, hj]
      exact hva
    refine ⟨_, vs, _, .int a, rfl, rfl, .inl (.inl q3), hat, ?_⟩
    refine ⟨H0, F0, F1, ρ, _, d.x, R1, hd, fun b H2 F2 bb r2 is2 hd2 => ?_, (n5.step R.fr).step r⟩
    split at hd2
    · rename_i b
      cases is2
      obtain ⟨q', vs', xs', q1', q2', q3', q4', q5'⟩ := (R1.step r2).mut (i := i) (by simpa using hm) e9
      rw [s1] at q1'
      cases q1'
      rw [e9] at q2'
      cases q2'
      refine ⟨a, b, rfl, rfl, _, vs', _, j, rfl, rfl, q3', by rw [q4'.length]; exact hj, ?_⟩
      exact n1 σ _ F2 _ (q5' _ _ (q4'.set (.int _) j)) (r.f0.trans r2.f0) hd2
    · exact hd2.elim
  · exact hd.elim
/-- target = name.pop() -/
def fPopG (i : Nat) (tf : FG) : FS := fun ρ d => match ρ[i]? with
  | some (some (.lst xs)) => (match xs.getLast? with | some a => tf a (ρ.set i (some (.lst xs.dropLast))) d.nx | none => False)
  | _ => False
theorem ds_popG {i : Nat} {o tg : Expr} {tf : FG} (ho : PE X o (tVar i)) (hm : m.contains i = true) (hg : DG X g m m' tg tf) (hs : swapsWithSole [tg] (.Call (.Attribute o "pop" apos) [] [] cpos) pos.line X.env = pure false := by rfl) (hw : swappedStores [tg] (.Call (.Attribute o "pop" apos) [] [] cpos) X.env = pure none := by rfl)
    (h1 : (assignEach [tg] X.env).map (·.2) = [assign tg X.env] := by rfl) (hbase : attributeBase o "pop" X.env (eval o X.env) = eval o X.env := by rfl) (hline : (apos.endLine == cpos.line) = true := by rfl) :
    DS X g E kd mb m m' (.Assign [tg] (.Call (.Attribute o "pop" apos) [] [] cpos) pos) (fPopG i tf) :=
  PSimp (ps_asg (pe_bm0 PySem.F.plainAttrs_list PySem.F.slot_list_pop PySem.F.type_list_pop mt_pop ho hbase hline) hg hs hw h1) fun D σ H ⟨H0, F0, F, ρ, d, R, hf, h1, h2, h3, h4, h5⟩ => by
  unfold fPopG at hf
  split at hf
  rotate_left
  · exact hf.elim
  rename_i ys ey
  obtain ⟨p, vs, xs, q1, q2, q3, q4, q5⟩ := R.mut (i := i) (by simpa using hm) ey
  rw [ey] at q2
  cases q2
  split at hf
  rotate_left
  · exact hf.elim
  rename_i a ea
  have hl := q4.length
  rw [List.getLast?_eq_getElem?] at ea
  obtain ⟨va, hva, isa⟩ := q4.get ea
  have drop : IsAll X.K F vs.dropLast ys.dropLast := by
    rw [List.dropLast_eq_take, List.dropLast_eq_take, hl]
    exact q4.take _
  exact ⟨_, q1, .inl ⟨rfl, vs, .inl (.inl q3)⟩, _, vs, va, rfl, rfl, q3, by rw [hl]; exact hva, H0, F0, F, _, a, d.nx, q5 _ _ drop, isa, hf, fun σ' ρ' R' hn => h1 σ' _ F ρ' R' (Ex.refl _) hn⟩
end
end DL

/-! DL33: sorted(set(..)) of pairs of integers. -/
namespace DL
open PySem PySem.Spec PyProof.Rows L2
def prI : List Int → Int × Int
  | [i, j] => (i, j)
  | _ => (0, 0)
/-- a row's pair, by its address -/
def keyOf (L : List (Addr × List Int)) : Value → Int × Int
  | .ref b => match L.find? fun q => decide (q.1 = b) with
    | some q => prI q.2
    | none => (0, 0)
  | _ => (0, 0)
theorem keyOf_at {L : List (Addr × List Int)} (one : ∀ q ∈ L, ∀ r ∈ L, q.1 = r.1 → q = r) {q : Addr × List Int} (h : q ∈ L) : keyOf L (.ref q.1) = prI q.2 := by
  show (match L.find? fun r => decide (r.1 = q.1) with | some q => prI q.2 | none => (0, 0)) = prI q.2
  cases e : L.find? fun r => decide (r.1 = q.1) with
  | none =>
    have := List.find?_eq_none.mp e q h
    simp at this
  | some r =>
    have h1 := List.mem_of_find?_eq_some e
    have h2 := List.find?_some e
    have := one r h1 q h (of_decide_eq_true h2)
    subst this
    rfl
theorem back_rows {L : List (Addr × List Int)} : ∀ vs : List Value, (∀ v ∈ vs, ∃ q ∈ L, v = Value.ref q.1) → ∃ M : List (Addr × List Int), vs = M.map (fun q => Value.ref q.1) ∧ ∀ q ∈ M, q ∈ L
  | [], _ => ⟨[], rfl, fun q hq => absurd hq (by simp)⟩
  | v :: vs, h => by
    obtain ⟨q, hq, rfl⟩ := h v (List.mem_cons_self ..)
    obtain ⟨M, rfl, hM⟩ := back_rows vs fun u hu => h u (List.mem_cons_of_mem _ hu)
    refine ⟨q :: M, rfl, fun r hr => ?_⟩
    rcases List.mem_cons.mp hr with rfl | hr
    · exact hq
    · exact hM r hr
theorem rows_perm {L M : List (Addr × List Int)} (nd : (L.map (·.2)).Nodup) (one : ∀ q ∈ L, ∀ r ∈ L, q.1 = r.1 → q = r) (hM : ∀ q ∈ M, q ∈ L) (p : (M.map fun q => Value.ref q.1).Perm (L.map fun q => Value.ref q.1)) : M.Perm L := by
  have nL : L.Nodup := List.Pairwise.of_map _ (fun _ _ hne e => hne (congrArg Prod.snd e)) nd
  have nr : (L.map fun q => Value.ref q.1).Nodup := List.pairwise_map.mpr (nL.imp_of_mem fun {q r} hq hr hne e => hne (one q hq r hr (Value.ref.inj e)))
  have nM : M.Nodup := List.Pairwise.of_map _ (fun _ _ hne e => hne (by rw [e])) (p.nodup_iff.mpr nr)
  refine (List.perm_ext_iff_of_nodup nM nL).mpr fun q => ⟨hM q, fun hq => ?_⟩
  obtain ⟨r, hr, e⟩ := List.mem_map.mp (p.mem_iff.mpr (List.mem_map.mpr ⟨q, hq, rfl⟩))
  rw [← one r (hM r hr) q hq (Value.ref.inj e)]
  exact hr
section
variable {P : Program} {w : World} {A : Around} {E : Value → Shared → Prop} {s : Shared}
theorem isPair_of {h : Heap} {i j : Int} {b : Addr} (x : IsT P w h [i, j] b) : Srt.IsPair h (.ref b) i j := by
  obtain ⟨a, xs, e, ⟨o, h1, h2, n, h3⟩, hi⟩ := tupInts_of x
  cases e
  have : ∃ t u, xs.toList = [.int i t, .int j u] := by
    generalize xs.toList = l at hi
    cases hi with
    | cons _ t hi => cases hi with
      | cons _ u hi => cases hi; exact ⟨t, u, rfl⟩
  obtain ⟨t, u, e⟩ := this
  have e2 : xs = #[.int i t, .int j u] := by
    have := congrArg List.toArray e
    simpa using this
  exact ⟨b, o, t, u, n, rfl, h1, h2, by rw [h3, e2]⟩
theorem sorted_setP {a : Addr} {L : List (Addr × List Int)} {es : Array (Int × Value)} {ep : Nat} {t : SetTable} {Q : Value → Shared → Prop} (R : SetTR P w s.heap a L es ep t) (hh : A.handled = none)
    (hB : ∀ p ∈ L, ∃ i j, p.2 = [i, j])
    (hQ : ∀ s' p (out : Array Value) (c : Nat) (M : List (Addr × List Int)), (∀ b o, s.heap.get? b = some o → s'.heap.get? b = some o) → s'.gens = s.gens → s'.os = s.os → s.heap.objs.size ≤ p →
      s'.heap.get? p = some (seqObj "list" out c) → out.toList = M.map (fun q => Value.ref q.1) → M.Perm L → M.Pairwise (fun q r => SrtO.lexB (prI r.2) (prI q.2) = false) → Q (.ref p) s') :
    wpAny (model P w) A (call (.builtin "sorted") [.ref a]) Q E s := by
  obtain ⟨o, ho, hex, hd⟩ := R.ob
  have hfew := R.few
  have hsz := R.size
  have one : ∀ q ∈ L, ∀ r ∈ L, q.1 = r.1 → q = r := fun q hq r hr e => by
    have a1 := R.tup q hq
    have a2 := R.tup r hr
    rw [e] at a1
    exact Prod.ext e (a1.inj a2)
  refine Calls.call_function_entry kind_sorted plain_sorted entry_sorted (args_sorted1 _) ?_
  unfold Builtin.«sorted»
  refine wpAny_bind (m := checkCount "sorted" 1 1 _) (wpAny_pure ?_)
  refine wpAny_bind (collect_set (A := A.in1) hh ⟨o, ho, hex.1, hd⟩ R.fits (by unfold scanBound; omega) R.tab.ris R.led fun s1 vs k1 hz g1 o1 pm => ?_)
  rw [show es.toList.map (·.2) = L.map fun q => Value.ref q.1 by rw [R.rows]; unfold rowsOf; rw [List.map_map]; rfl] at pm
  have hvl : vs.length < 64 := by rw [pm.length_eq, List.length_map]; exact hfew
  have mem : ∀ v ∈ vs, ∃ q ∈ L, v = Value.ref q.1 := fun v hv => by
    obtain ⟨q, hq, e⟩ := List.mem_map.mp (pm.mem_iff.mp hv)
    exact ⟨q, hq, e.symm⟩
  refine wpAny_bind (wpAny_newList ?_ (by rw [sizeLine_eq]; omega))
  obtain ⟨h2, hh2⟩ : ∃ h2, h2 = s1.heap.push (seqObj "list" vs.toArray 0) := ⟨_, rfl⟩
  have hoL : h2.get? s1.heap.objs.size = some (seqObj "list" vs.toArray 0) := by rw [hh2]; exact Heap.get?_push_size _ rfl
  have ip : ∀ v ∈ vs, Srt.IsPair h2 v (keyOf L v).1 (keyOf L v).2 := fun v hv => by
    obtain ⟨q, hq, rfl⟩ := mem v hv
    obtain ⟨i, j, e⟩ := hB q hq
    rw [keyOf_at one hq, e]
    have x := R.tup q hq
    rw [e] at x
    refine isPair_of (P := P) (w := w) (isT_keep x fun b u e => ?_)
    rw [hh2]; exact Heap.get?_push_of_some _ (k1 b u e)
  rw [← hh2]
  refine wpAny_bind (wpAny_holding (wpAny_call_entry slot_list_sort ⟨_, hoL, rfl⟩ entry_list_sort (SrtO.list_sort_ord (s := { s1 with heap := h2 }) (SrtO.swo_lex (keyOf L)) hoL (by rw [sizeLine_eq]; omega) (fun l2 => SrtO.pairs_sortableO (by omega) ip fun o e => ?_) fun out hs hb => ⟨_, rfl, ?_⟩) (args_list_sort _)))
  · have e' : some o = some (seqObj "list" vs.toArray 0) := e.symm.trans hoL
    cases e'
    intro c
    exact absurd (Value.type.inj c) (by decide)
  obtain ⟨c, hc⟩ := sortedHeap_at (vs := vs) (out := out.toArray) hoL
  obtain ⟨M, e', hM⟩ := back_rows (L := L) out fun v hv => mem v (hb.perm.mem_iff.mp hv)
  have pL : M.Perm L := rows_perm R.nd one hM (by rw [← e']; exact hb.perm.trans pm)
  have pw : M.Pairwise (fun q r => SrtO.lexB (prI r.2) (prI q.2) = false) := by
    rw [e'] at hs
    refine List.Pairwise.imp_of_mem (fun {q r} hq hr hle => ?_) (List.pairwise_map.mp hs)
    rw [← keyOf_at one (hM q hq), ← keyOf_at one (hM r hr)]
    exact hle
  refine wpAny_pure ⟨_, rfl, hQ _ s1.heap.objs.size out.toArray c M (fun b u e => ?_) g1 o1 hz hc (by simpa using e') pL pw⟩
  have q := k1 b u e
  have hlt := Heap.lt_size q
  show (sortedHeap h2 s1.heap.objs.size vs out.toArray).get? b = some u
  rw [sortedHeap_old (Nat.ne_of_lt hlt) (by rw [hh2, size_push']; exact Nat.lt_succ_of_lt hlt), hh2]
  exact Heap.get?_push_of_some _ q
end
section
variable {X : Cx}
def rSortedPT (K : PySem.W.Frag) (P : Program) (w : World) : List V → Hp → VK → Prop := fun vs H Q => ∃ (a : Addr) (L : List (Addr × List Int)), vs = [V.ref a] ∧ H a = some (SetTO P w a L) ∧ (∀ p ∈ L, SqT K H p.1 (p.2.map V.int)) ∧ (∀ p ∈ L, ∃ i j, p.2 = [i, j]) ∧
  ∀ (M : List (Addr × List Int)) (p : Addr), M.Perm L → (M.map (·.2)).Nodup → M.length < 64 → M.Pairwise (fun q r => SrtO.lexB (prI r.2) (prI q.2) = false) → H p = none → Q (.ref p) (upd H p (.lst (M.map fun q => V.ref q.1)))
theorem cr_sortedPT (hc : X.calm = true) : CallR X (.builtin "sorted") (rSortedPT X.K X.prog X.w) := by
  intro pins s σ H vs us Q I r h
  obtain ⟨a, L, rfl, ha, hk, hB, q⟩ := h
  have R0 : SetT0 X.prog X.w s.heap a L := (I.hok a _ ha).1
  obtain ⟨es, ep, t, R⟩ := R0.full fun p hp => I.isT (hk p hp)
  rw [Vals.ref1 r]
  refine sorted_setP R (I.ok.hd hc) hB fun s' p out c M k g o hp hg hout pm pw => ?_
  have hfew : M.length < 64 := by rw [pm.length_eq]; exact R.few
  have hn : H p = none := I.hok.fresh hp
  have J : Inv X pins σ (upd H p (.lst (M.map fun q => V.ref q.1))) { s with heap := s'.heap, gens := s'.gens, drawn := s'.drawn, toks := s'.toks } :=
    I.call (ch := []) (Un.laid k hp hn) (I.hok.laid k hp ⟨by rw [List.length_map, sizeLine_eq]; omega, out.toList, c, by rw [hout]; exact vals_of_refs M, hg⟩) (by rw [g]; exact I.bare) (fun _ z => nomatch z)
  have e : s' = { s with heap := s'.heap, gens := s'.gens, drawn := s'.drawn, toks := s'.toks } := by
    cases s'
    cases s
    cases o
    rfl
  rw [e]
  exact ⟨.ref p, _, J, rfl, q M p pm ((pm.map (·.2)).nodup_iff.mpr R.nd) hfew pw hn⟩
abbrev prD (p : Int × Int) : D := .tup [.int p.1, .int p.2]
def lexLe (p q : Int × Int) : Prop := p.1 < q.1 ∨ (p.1 = q.1 ∧ p.2 ≤ q.2)
/-- sorted(set(a)): each pair once, ascending -/
def sSortSet : D → (D → Prop) → XD → Prop := fun a q _ => match a with
  | .lst ds => ∃ ps : List (Int × Int), ds = ps.map prD ∧ ps.length < 64 ∧ ∀ qs : List (Int × Int), qs.Nodup → (∀ p, p ∈ qs ↔ p ∈ ps) → qs.Pairwise lexLe → q (.lst (qs.map prD))
  | _ => False
theorem rows_of {K : PySem.W.Frag} {F : Hp} : ∀ {ps : List (Int × Int)} {ys : List V}, IsAll K F ys (ps.map prD) → ∃ ks : List (Addr × List Int), ys = ks.map (fun p => V.ref p.1) ∧ ks.map (·.2) = ps.map (fun p => [p.1, p.2]) ∧ (∀ p ∈ ks, SqT K F p.1 (p.2.map V.int)) ∧ (∀ p ∈ ks, Is K F (.ref p.1) (prD (prI p.2)) ∧ ∃ i j, p.2 = [i, j])
  | [], ys, h => by
    cases h
    exact ⟨[], rfl, rfl, fun p hp => absurd hp (by simp), fun p hp => absurd hp (by simp)⟩
  | p :: ps, ys, h => by
    cases h with
    | cons h1 h2 =>
      obtain ⟨ks, rfl, e2, e3, e4⟩ := rows_of h2
      have h1' := h1
      cases h1 with
      | tup g1 g2 =>
        rename_i b vs
        cases g2 with
        | cons i1 g2 => cases g2 with
          | cons i2 g2 =>
            cases g2
            cases i1
            cases i2
            refine ⟨(b, [p.1, p.2]) :: ks, rfl, by rw [List.map_cons, e2, List.map_cons], fun q hq => ?_, fun q hq => ?_⟩
            · rcases List.mem_cons.mp hq with rfl | hq
              · exact g1.sqT
              · exact e3 q hq
            · rcases List.mem_cons.mp hq with rfl | hq
              · exact ⟨h1', _, _, rfl⟩
              · exact e4 q hq
variable {g : Gd} {E : XK} {m : List Nat} {a : Expr} {fa : FE} {pos p pos2 p2 : Pos}
theorem df_sortset (hc : X.calm = true) (hu : X.A.units + 64 < cLine) (hg : Gl X "sorted") (hm : X.mg "sorted" = none) (hg2 : Gl X "set") (hm2 : X.mg "set" = none) (ha : DB X g E m a fa) (hb : bootBuiltins "sorted" = some (.builtin "sorted") := by decide +kernel) (hb2 : bootBuiltins "set" = some (.type "set") := by decide +kernel)
    (h1 : starEach [.Call (.Name "set" p2) [a] [] pos2] X.env = (false, eval (.Call (.Name "set" p2) [a] [] pos2) X.env) :: starEach [] X.env := by rfl) (h2 : starEach [a] X.env = (false, eval a X.env) :: starEach [] X.env := by rfl) :
    DF X g E m (.Call (.Name "sorted" p) [.Call (.Name "set" p2) [a] [] pos2] [] pos) (f1 sSortSet fa) :=
  df_1 (r := fun v H Q => rSetOfT X.K X.prog X.w [v] H fun s H1 => rSortedPT X.K X.prog X.w [s] H1 Q)
    (pe_callB (cr_sortedPT hc) hg hm hb (pa_cons (pe_callTy (cr_setOfT hc hu) hg2 hm2 hb2 (pa_cons ha pa_nil h2) (he := h2)) pa_nil h1) (he := h1)) fun g E H F v a q x Q r ia hs hq hx => by
  unfold sSortSet at hs
  split at hs
  rotate_left
  · exact hs.elim
  obtain ⟨ps, rfl, hl, hs⟩ := hs
  obtain ⟨b, ys, rfl, h1, h2⟩ := ia.lst' r.sub
  obtain ⟨ks, rfl, e2, e3, e4⟩ := rows_of h2
  refine ⟨b, ks, rfl, h1, fun p hp => r.sub.sqT (e3 p hp), ?_, fun s L hs1 hL1 hL2 => ?_⟩
  · have := congrArg List.length e2
    rw [List.length_map, List.length_map] at this
    omega
  · have r2 : Fr g H F (upd H s (SetTO X.prog X.w s L)) F := r.newO hs1
    refine ⟨s, L, rfl, upd_same, fun p hp => r2.sub.sqT (e3 p (hL1 p hp)), fun p hp => (e4 p (hL1 p hp)).2, fun M p pm nd hlen pw hn => ?_⟩
    have hM : ∀ q ∈ M, q ∈ ks := fun q hq => hL1 q (pm.mem_iff.mp hq)
    have inj : ∀ q ∈ M, q.2 = [(prI q.2).1, (prI q.2).2] := fun q hq => by
      obtain ⟨_, i, j, e⟩ := e4 q (hM q hq)
      rw [e]; rfl
    have nq : (M.map fun q => prI q.2).Nodup := by
      refine List.pairwise_map.mpr ((List.pairwise_map.mp nd).imp_of_mem fun {q t} hq ht hne e => hne ?_)
      rw [inj q hq, inj t ht, e]
    have mem : ∀ z : Int × Int, z ∈ (M.map fun q => prI q.2) ↔ z ∈ ps := fun z => by
      have k2 : ∀ l : List Int, l ∈ ks.map (·.2) ↔ l ∈ ps.map (fun p => [p.1, p.2]) := fun l => by rw [e2]
      constructor
      · intro hz
        obtain ⟨q, hq, rfl⟩ := List.mem_map.mp hz
        obtain ⟨t, ht, e⟩ := List.mem_map.mp ((k2 q.2).mp (List.mem_map.mpr ⟨q, hM q hq, rfl⟩))
        rw [← e]
        exact ht
      · intro hz
        obtain ⟨q, hq, e⟩ := List.mem_map.mp ((k2 [z.1, z.2]).mpr (List.mem_map.mpr ⟨z, hz, rfl⟩))
        obtain ⟨t, ht, e5⟩ := List.mem_map.mp (hL2 q hq)
        have e5' : t.2 = q.2 := e5
        refine List.mem_map.mpr ⟨t, pm.mem_iff.mpr ht, ?_⟩
        show prI t.2 = z
        have e6 : q.2 = [z.1, z.2] := e
        rw [e5', e6]; rfl
    have pl : (M.map fun q => prI q.2).Pairwise lexLe := List.pairwise_map.mpr (pw.imp fun {q t} h => by
      have := SrtO.lexB_no.mp h
      unfold lexLe
      omega)
    have all : ∀ N : List (Addr × List Int), (∀ q ∈ N, q ∈ ks) → IsAll X.K F (N.map fun q => V.ref q.1) ((N.map fun q => prI q.2).map prD) := fun N => by
      induction N with
      | nil => intro _; exact .nil
      | cons a N ih => intro hN; exact .cons (e4 a (hN a (List.mem_cons_self ..))).1 (ih fun q hq => hN q (List.mem_cons_of_mem _ hq))
    exact hq p _ F _ _ (r2.trans (r2.newO hn)) (r2.back hn) upd_same (r2.freeF hn) (all M hM) (hs _ nq mem pl)
end
/-! ### sorted(..) of tuples whose first parts are unlike integers -/
def IsFst (h : Heap) (v : Value) (x : Int) : Prop := ∃ a o t y n, v = .ref a ∧ h.get? a = some o ∧ o.cls = .type "tuple" ∧ o.data = .seq #[.int x t, y] n
theorem IsFst.keeps {h h' : Heap} {v : Value} {x : Int} (p : IsFst h v x) (k : ∀ b o, h.get? b = some o → o.cls = .type "tuple" → h'.get? b = some o) : IsFst h' v x := by
  obtain ⟨a, o, t, y, n, e, h1, h2, h3⟩ := p
  exact ⟨a, o, t, y, n, e, k a o h1 h2, h2, h3⟩
theorem swo_fst (k : Value → Int) : SrtO.Swo fun v u => decide (k v < k u) := by
  refine ⟨fun x y h => ?_, fun x y z h1 h2 => ?_⟩
  · have := of_decide_eq_true h
    exact decide_eq_false (by omega)
  · have a := of_decide_eq_false h1
    have b := of_decide_eq_false h2
    exact decide_eq_false (by omega)
section
variable {prog : Program} {w : World} {A : Around} {s : Shared}
theorem fst_cmp {vs : List Value} {k : Value → Int} (hp : ∀ v ∈ vs, IsFst s.heap v (k v)) (inj : ∀ v ∈ vs, ∀ u ∈ vs, k v = k u → v = u) : SrtO.Cmp prog w A s (tuples' true) (fun p => p.1 ∈ vs) (SrtO.lt2 fun v u => decide (k v < k u)) := by
  intro p q hm hm'
  have h1 := hp _ hm
  have h2 := hp _ hm'
  have hi := inj _ hm _ hm'
  show wpAny (model prog w) A (keyLt' (tuples' true) p.1 q.1) (fun r s' => s' = s ∧ r = decide (k p.1 < k q.1)) (fun _ _ => False) s
  generalize p.1 = v at h1 hi ⊢
  generalize q.1 = u at h2 hi ⊢
  obtain ⟨a, o, t, y, n, e, ho, hc, hd⟩ := h1
  obtain ⟨a', o', t', y', n', e', ho', hc', hd'⟩ := h2
  generalize k v = x at hd hi ⊢
  generalize k u = x' at hd' hi ⊢
  subst e
  subst e'
  refine PySem.W.kat_lt ho hd ho' hd' ?_
  show PySem.W.KatLex prog w A true (decide (2 < 2)) _ [(.int x t, .int x' t'), (y, y')] 0 s
  refine PySem.W.kat_cons (SeqAt.EqAt.int_int x t x' t' prog w _ _ ?_)
  refine PySem.W.kat_go (fun e1 => ?_) (fun e1 => ?_)
  · have ex : x = x' := by simpa using e1
    have ea : a = a' := Value.ref.inj (hi ex)
    subst ea
    have eo : o = o' := Option.some.inj (ho.symm.trans ho')
    subst eo
    have ey : y = y' := by
      have := hd.symm.trans hd'
      injection this with h1 _
      have h2 := congrArg Array.toList h1
      simpa using (List.cons.inj (List.cons.inj h2).2).1
    subst ey
    refine PySem.W.kat_yes (PySem.W.kat_cons (SeqAt.EqAt.same y prog w _ _ ?_))
    refine PySem.W.kat_go (fun e2 => ?_) (fun e2 => (by cases e2))
    exact PySem.W.kat_yes (PySem.W.kat_nil ⟨rfl, (decide_eq_false (by omega)).symm⟩)
  · exact PySem.W.kat_no (oneLt_int ⟨rfl, rfl⟩)
theorem fst_sortable {a : Addr} {vs : List Value} {k : Value → Int} (h0 : 0 < vs.length) (hp : ∀ v ∈ vs, IsFst s.heap v (k v)) (inj : ∀ v ∈ vs, ∀ u ∈ vs, k v = k u → v = u) (ha : ∀ o, s.heap.get? a = some o → o.cls ≠ .type "tuple") : SrtO.SortableO prog w A s a vs fun v u => decide (k v < k u) := by
  intro h' keep
  have hp' : ∀ v ∈ vs, IsFst h' v (k v) := fun v hm => (hp v hm).keeps fun b o e c => keep b o (fun z => by subst z; exact ha o e c) e
  have fs : ∀ vs : List Value, (∀ v ∈ vs, ∃ x, IsFst h' v x) → ∃ fs : List Value, PySem.W.KatTups h' vs fs ∧ fs.length = vs.length ∧ ∀ f ∈ fs, ∃ x t, f = Value.int x t := by
    intro vs
    induction vs with
    | nil => intro _; exact ⟨[], PySem.W.KatTups.nil, rfl, fun _ hm => absurd hm (by simp)⟩
    | cons v vs ih =>
      intro hv
      obtain ⟨fs, h1, h2, h3⟩ := ih fun u hu => hv u (List.mem_cons_of_mem _ hu)
      obtain ⟨x, a, o, t, y, n, e, ho, hc, hd⟩ := hv v (List.mem_cons_self ..)
      subst e
      refine ⟨.int x t :: fs, PySem.W.KatTups.cons ho hc hd rfl h1, by rw [List.length_cons, List.length_cons, h2], fun f hm => ?_⟩
      rcases List.mem_cons.mp hm with rfl | hm
      · exact ⟨x, t, rfl⟩
      · exact h3 f hm
  obtain ⟨fs, h1, h2, h3⟩ := fs vs fun v hm => ⟨_, hp' v hm⟩
  refine ⟨tuples' true, fun Q E hq => ?_, fst_cmp hp' inj⟩
  refine PySem.W.kat_kind (T := .type "int") h1 (by omega) (fun f hm => ?_) (by rfl) ?_
  · obtain ⟨x, t, rfl⟩ := h3 f hm
    exact PySem.W.Looks.now
  · have e : (Value.type "int" != Value.type "tuple") = true := by first | decide +kernel | rfl | decide
    rw [e]
    exact hq
end
def keyF (L : List (Addr × Int)) : Value → Int
  | .ref b => match L.find? fun q => decide (q.1 = b) with
    | some q => q.2
    | none => 0
  | _ => 0
theorem keyF_at {L : List (Addr × Int)} (one : ∀ q ∈ L, ∀ r ∈ L, q.1 = r.1 → q = r) {q : Addr × Int} (h : q ∈ L) : keyF L (.ref q.1) = q.2 := by
  show (match L.find? fun r => decide (r.1 = q.1) with | some q => q.2 | none => 0) = q.2
  cases e : L.find? fun r => decide (r.1 = q.1) with
  | none =>
    have := List.find?_eq_none.mp e q h
    simp at this
  | some r =>
    have h1 := List.mem_of_find?_eq_some e
    have h2 := List.find?_some e
    have := one r h1 q h (of_decide_eq_true h2)
    subst this
    rfl
theorem refsF : ∀ {ts : List (Addr × Int)} {us : List Value}, Vals (ts.map fun p => V.ref p.1) us → us = ts.map fun p => Value.ref p.1
  | [], us, h => by cases h; rfl
  | p :: ts, us, h => by
    cases h with
    | cons h1 h2 =>
      obtain rfl := refsF h2
      cases h1
      rfl
theorem valsF : ∀ ts : List (Addr × Int), Vals (ts.map fun p => V.ref p.1) (ts.map fun p => Value.ref p.1)
  | [] => .nil
  | p :: ts => .cons rfl (valsF ts)
theorem backF {L : List (Addr × Int)} : ∀ vs : List Value, (∀ v ∈ vs, ∃ q ∈ L, v = Value.ref q.1) → ∃ M : List (Addr × Int), vs = M.map (fun q => Value.ref q.1) ∧ ∀ q ∈ M, q ∈ L
  | [], _ => ⟨[], rfl, fun q hq => absurd hq (by simp)⟩
  | v :: vs, h => by
    obtain ⟨q, hq, rfl⟩ := h v (List.mem_cons_self ..)
    obtain ⟨M, rfl, hM⟩ := backF vs fun u hu => h u (List.mem_cons_of_mem _ hu)
    refine ⟨q :: M, rfl, fun r hr => ?_⟩
    rcases List.mem_cons.mp hr with rfl | hr
    · exact hq
    · exact hM r hr
theorem permF {L M : List (Addr × Int)} (nd : (L.map (·.2)).Nodup) (one : ∀ q ∈ L, ∀ r ∈ L, q.1 = r.1 → q = r) (hM : ∀ q ∈ M, q ∈ L) (p : (M.map fun q => Value.ref q.1).Perm (L.map fun q => Value.ref q.1)) : M.Perm L := by
  have nL : L.Nodup := List.Pairwise.of_map _ (fun _ _ hne e => hne (congrArg Prod.snd e)) nd
  have nr : (L.map fun q => Value.ref q.1).Nodup := List.pairwise_map.mpr (nL.imp_of_mem fun {q r} hq hr hne e => hne (one q hq r hr (Value.ref.inj e)))
  have nM : M.Nodup := List.Pairwise.of_map _ (fun _ _ hne e => hne (by rw [e])) (p.nodup_iff.mpr nr)
  refine (List.perm_ext_iff_of_nodup nM nL).mpr fun q => ⟨hM q, fun hq => ?_⟩
  obtain ⟨r, hr, e⟩ := List.mem_map.mp (p.mem_iff.mpr (List.mem_map.mpr ⟨q, hq, rfl⟩))
  rw [← one r (hM r hr) q hq (Value.ref.inj e)]
  exact hr
theorem inj_of_nd : ∀ {ts : List (Addr × Int)}, (ts.map (·.2)).Nodup → ∀ {q r : Addr × Int}, q ∈ ts → r ∈ ts → q.2 = r.2 → q = r
  | [], _, q, r, hq, _, _ => absurd hq (by simp)
  | t :: ts, nd, q, r, hq, hr, e => by
    rw [List.map_cons, List.nodup_cons] at nd
    rcases List.mem_cons.mp hq with h1 | h1 <;> rcases List.mem_cons.mp hr with h2 | h2
    · rw [h1, h2]
    · exact absurd (List.mem_map.mpr ⟨r, h2, by rw [← e, h1]⟩) nd.1
    · exact absurd (List.mem_map.mpr ⟨q, h1, by rw [e, h2]⟩) nd.1
    · exact inj_of_nd nd.2 h1 h2 e
section
variable {X : Cx}
def rSortedF (K : PySem.W.Frag) : List V → Hp → VK → Prop := fun vs H Q => ∃ (a : Addr) (ts : List (Addr × Int)), vs = [V.ref a] ∧ SqL K H a (ts.map fun p => V.ref p.1) ∧ (∀ p ∈ ts, ∃ y, H p.1 = some (.tup [.int p.2, y])) ∧ (ts.map (·.2)).Nodup ∧
  ∀ (us : List (Addr × Int)) (p : Addr), us.Perm ts → us.Pairwise (fun x y => x.2 ≤ y.2) → H p = none → Q (.ref p) (upd H p (.lst (us.map fun p => V.ref p.1)))
theorem cr_sortedF : CallR X (.builtin "sorted") (rSortedF X.K) := by
  intro pins s σ H vs us Q I r h
  obtain ⟨a, ts, rfl, hs, hx, nd, q⟩ := h
  obtain ⟨its, rv, hl, hz⟩ := I.list hs
  rw [Vals.ref1 r]
  have one : ∀ q ∈ ts, ∀ r ∈ ts, q.1 = r.1 → q = r := fun q hq r hr e => by
    obtain ⟨y, hy⟩ := hx q hq
    obtain ⟨z, hz⟩ := hx r hr
    rw [e, hz] at hy
    injection hy with hy
    injection hy with hy
    injection hy with h1 _
    injection h1 with h1
    exact Prod.ext e h1.symm
  have eit := refsF rv
  have mem : ∀ v ∈ its, ∃ q ∈ ts, v = Value.ref q.1 := fun v hv => by
    rw [eit] at hv
    obtain ⟨q, hq, e⟩ := List.mem_map.mp hv
    exact ⟨q, hq, e.symm⟩
  have ip : ∀ v ∈ its, IsFst s.heap v (keyF ts v) := fun v hv => by
    obtain ⟨q, hq, rfl⟩ := mem v hv
    rw [keyF_at one hq]
    obtain ⟨y, hy⟩ := hx q hq
    obtain ⟨_, its2, r2, o, ho, hc, n, hd⟩ := I.hok _ _ hy
    obtain ⟨u1, u2, rfl, ri, rj⟩ := vals2 r2
    obtain ⟨t1, rfl⟩ := ri
    exact ⟨q.1, o, t1, u2, n, rfl, ho, hc, hd⟩
  have inj : ∀ v ∈ its, ∀ u ∈ its, keyF ts v = keyF ts u → v = u := fun v hv u hu e => by
    obtain ⟨q, hq, rfl⟩ := mem v hv
    obtain ⟨r, hr, rfl⟩ := mem u hu
    rw [keyF_at one hq, keyF_at one hr] at e
    have : q = r := by
      exact inj_of_nd nd hq hr e
    rw [this]
  refine SrtO.sorted_ord (swo_fst (keyF ts)) hl.isList (by rw [← rv.length]; exact hz) (fun l2 h₁ b hb kk => ?_) fun out hs hb => ?_
  · refine fst_sortable (s := { s with heap := h₁ }) (by omega) (fun v hm => (ip v hm).keeps fun b o e _ => (kk b o e).2) inj fun o e => ?_
    have e' : some o = some (seqObj "list" its.toArray 0) := e.symm.trans hb
    cases e'
    intro c
    exact absurd (Value.type.inj c) (by decide)
  · obtain ⟨M, e', hM⟩ := backF (L := ts) out fun v hv => mem v (hb.perm.mem_iff.mp hv)
    have pL : M.Perm ts := permF nd one hM (by rw [← e', ← eit]; exact hb.perm)
    have pw : M.Pairwise (fun x y => x.2 ≤ y.2) := by
      rw [e'] at hs
      refine List.Pairwise.imp_of_mem (fun {q r} hq hr hle => ?_) (List.pairwise_map.mp hs)
      have := of_decide_eq_false hle
      rw [keyF_at one (hM q hq), keyF_at one (hM r hr)] at this
      omega
    obtain ⟨n, hn⟩ := sortedAll_at s.heap its out.toArray
    have fresh : H (s.heap.objs.size + 1) = none := I.hok.fresh (Nat.le_succ _)
    refine ⟨.ref (s.heap.objs.size + 1), upd H (s.heap.objs.size + 1) (.lst (M.map fun p => V.ref p.1)), I.laid (t' := s.toks) (fun b o e => sortedAll_old e) (Nat.le_succ _) ⟨?_, out, n, by rw [e']; exact valsF M, hn⟩, rfl, q M _ pL pw fresh⟩
    rw [List.length_map, pL.length_eq]
    have := rv.length
    rw [List.length_map] at this
    rw [this, ← rv.length]; exact hz
end
theorem permMap {α β : Type} {f : α → β} {ys us : List β} (h : ys.Perm us) : ∀ {zs : List α}, ys = zs.map f → ∃ ws : List α, ws.Perm zs ∧ us = ws.map f := by
  induction h with
  | nil => intro zs e; exact ⟨[], by cases zs with
    | nil => exact .nil
    | cons _ _ => simp at e, rfl⟩
  | cons x _ ih =>
    intro zs e
    cases zs with
    | nil => simp at e
    | cons z zs =>
      rw [List.map_cons, List.cons.injEq] at e
      obtain ⟨ws, h1, h2⟩ := ih e.2
      exact ⟨z :: ws, h1.cons z, by rw [List.map_cons, ← h2, e.1]⟩
  | swap x y l =>
    intro zs e
    match zs, e with
    | a :: b :: zs, e =>
      rw [List.map_cons, List.map_cons, List.cons.injEq, List.cons.injEq] at e
      exact ⟨b :: a :: zs, .swap _ _ _, by rw [List.map_cons, List.map_cons, ← e.1, ← e.2.1, ← e.2.2]⟩
  | trans _ _ ih1 ih2 =>
    intro zs e
    obtain ⟨ws, h1, h2⟩ := ih1 e
    obtain ⟨vs, h3, h4⟩ := ih2 h2
    exact ⟨vs, h3.trans h1, h4⟩
abbrev fsD (p : Int × D) : D := .tup [.int p.1, p.2]
/-- sorted(a) of tuples whose first parts are unlike integers -/
def sSortF : D → (D → Prop) → XD → Prop := fun a q _ => match a with
  | .lst ds => ∃ ps : List (Int × D), ds = ps.map fsD ∧ (ps.map (·.1)).Nodup ∧ ∀ qs : List (Int × D), qs.Perm ps → qs.Pairwise (fun x y => x.1 ≤ y.1) → q (.lst (qs.map fsD))
  | _ => False
theorem rowsF {K : PySem.W.Frag} {F : Hp} : ∀ {ps : List (Int × D)} {ys : List V}, IsAll K F ys (ps.map fsD) → ∃ zs : List (Addr × Int × D), ys = zs.map (fun z => V.ref z.1) ∧ zs.map (·.2) = ps ∧ (∀ z ∈ zs, ∃ y, TupD K F z.1 [.int z.2.1, y]) ∧ (∀ z ∈ zs, Is K F (.ref z.1) (fsD z.2))
  | [], ys, h => by
    cases h
    exact ⟨[], rfl, rfl, fun p hp => absurd hp (by simp), fun p hp => absurd hp (by simp)⟩
  | p :: ps, ys, h => by
    cases h with
    | cons h1 h2 =>
      obtain ⟨zs, rfl, e2, e3, e4⟩ := rowsF h2
      have h1' := h1
      cases h1 with
      | tup g1 g2 =>
        rename_i b vs
        cases g2 with
        | cons i1 g2 => cases g2 with
          | cons i2 g2 =>
            cases g2
            cases i1
            refine ⟨(b, p) :: zs, rfl, by rw [List.map_cons, e2], fun q hq => ?_, fun q hq => ?_⟩
            · rcases List.mem_cons.mp hq with rfl | hq
              · exact ⟨_, g1⟩
              · exact e3 q hq
            · rcases List.mem_cons.mp hq with rfl | hq
              · exact h1'
              · exact e4 q hq
section
variable {X : Cx} {g : Gd} {E : XK} {m : List Nat} {a : Expr} {fa : FE} {pos p : Pos}
theorem allF {K : PySem.W.Frag} {F : Hp} : ∀ {zs : List (Addr × Int × D)}, (∀ z ∈ zs, Is K F (.ref z.1) (fsD z.2)) → IsAll K F (zs.map fun z => V.ref z.1) ((zs.map (·.2)).map fsD)
  | [], _ => .nil
  | z :: zs, h => .cons (h z (List.mem_cons_self ..)) (allF fun q hq => h q (List.mem_cons_of_mem _ hq))
theorem df_sortF (hg : Gl X "sorted") (hm : X.mg "sorted" = none) (ha : DB X g E m a fa) (hb : bootBuiltins "sorted" = some (.builtin "sorted") := by decide +kernel) (h1 : starEach [a] X.env = (false, eval a X.env) :: starEach [] X.env := by rfl) :
    DF X g E m (.Call (.Name "sorted" p) [a] [] pos) (f1 sSortF fa) :=
  df_1 (r := fun v H Q => rSortedF X.K [v] H Q) (pe_callB cr_sortedF hg hm hb (pa_cons ha pa_nil h1) (he := h1)) fun g E H F v a q x Q r ia hs hq hx => by
  unfold sSortF at hs
  split at hs
  rotate_left
  · exact hs.elim
  obtain ⟨ps, rfl, nd, hs⟩ := hs
  obtain ⟨b, ys, rfl, h1, h2⟩ := ia.lst' r.sub
  obtain ⟨zs, rfl, e2, e3, e4⟩ := rowsF h2
  have em : (zs.map fun z => (z.1, z.2.1)).map (·.2) = ps.map (·.1) := by rw [← e2, List.map_map, List.map_map]; rfl
  refine ⟨b, zs.map fun z => (z.1, z.2.1), rfl, ?_, fun p hp => ?_, by rw [em]; exact nd, fun us p pm pw hn => ?_⟩
  · rw [List.map_map]; exact h1
  · obtain ⟨z, hz, rfl⟩ := List.mem_map.mp hp
    obtain ⟨y, hy⟩ := e3 z hz
    exact ⟨y, r.sub _ _ hy.pair⟩
  · obtain ⟨ws, h3, rfl⟩ := permMap pm.symm rfl
    have pr : (ws.map (·.2)).Perm ps := by rw [← e2]; exact h3.map _
    have pl : (ws.map (·.2)).Pairwise (fun x y => x.1 ≤ y.1) := List.pairwise_map.mpr ((List.pairwise_map.mp pw).imp fun h => h)
    refine hq p _ F _ _ (r.newO hn) (r.back hn) upd_same (r.freeF hn) ?_ (hs _ pr pl)
    rw [List.map_map]
    exact allF fun z hz => e4 z (h3.mem_iff.mp hz)
end
end DL

/-! DL34: errors of ours as data: made and kept, asked for what they carry. -/
namespace DL
open PySem PySem.Spec PyProof.Rows L2
section
variable {X : Cx} {x : Str} {e : Expr} {te : TE} {p pos : Pos} {k : Nat}
/-- X(e), kept -/
theorem pe_err (M : Mkr X.prog X.w X.K X.mg X.base x) (hr : Room (k + 1) X.A) (hk : 1 ≤ k) (hG : X.A.guards = some []) (hg : Gl X x) (he : PE X e te)
    (hs : starEach [e] X.env = (false, eval e X.env) :: starEach [] X.env := by rfl) (hdb : (x == ("__debug__" : Str)) = false := by decide) :
    PE X (.Call (.Name x p) [e] [] pos) (fun σ H Q => te σ H fun v H1 => ∀ a dx, H1 a = none → H1 dx = none → dx ≠ a → Q (.ref a) (upd (upd H1 a (exo a (He.ga X.K x) (some dx))) dx (exd dx [("thing", v)]))) := by
  obtain ⟨fI, fd, F1, iC, tI, hb, hm⟩ := M.ex
  have T := M.err
  refine ⟨fun pins s σ H Q I h => ?_⟩
  refine wpAny_Call_Name_kw (ld_glob I hg hm ?_ hdb)
  let goal : List V → Hp → Prop := fun vs H1 => match vs with
    | [v] => ∀ a dx, H1 a = none → H1 dx = none → dx ≠ a → Q (.ref a) (upd (upd H1 a (exo a (He.ga X.K x) (some dx))) dx (exd dx [("thing", v)]))
    | _ => False
  refine PySem.W.callWith_K (h₀ := X.base) I.ok.mod.kin T.kp (thn ((pa_cons he pa_nil hs).run pos pins s σ H goal I h) fun us s1 ⟨vs, H1, I1, r1, q⟩ => ⟨I1.kIn, ?_⟩) hs (by rfl)
  match vs, q with
  | [v], q =>
  have q : ∀ a dx, H1 a = none → H1 dx = none → dx ≠ a → Q (.ref a) (upd (upd H1 a (exo a (He.ga X.K x) (some dx))) dx (exd dx [("thing", v)])) := q
  obtain ⟨hp, g, dr, tk, os⟩ := s1
  obtain ⟨nm, N', qn, bs, bm, hdct, sn, sub, ab, col, dd, k0, k1, k2, k3, k5, hC, hT⟩ := PySem.W.excInit_of I1.kIn T.init
  have gt : hp.objs.size ≤ hp.objs.size + 1 := Nat.le_succ _
  have fresh : H1 (hp.objs.size + 1) = none := I1.hok.fresh gt
  have keep : ∀ b o, hp.get? b = some o → ((hp.push (PySem.W.kdv_tup us)).push (PySem.HandSPX.excO (He.ga X.K x) hp.objs.size)).get? b = some o := fun b o z => Heap.get?_push_of_some _ (Heap.get?_push_of_some _ z)
  have there : ((hp.push (PySem.W.kdv_tup us)).push (PySem.HandSPX.excO (He.ga X.K x) hp.objs.size)).get? (hp.objs.size + 1) = some (PySem.HandSPX.excO (He.ga X.K x) hp.objs.size) := by heap_get
  have I2 := I1.laid (t' := tk) (a := hp.objs.size + 1) (o := exo (hp.objs.size + 1) (He.ga X.K x) none) keep gt (exo_ok there)
  have nus : us.length = 1 := (Paired.length r1).symm
  have tie : Vals [V.ref (hp.objs.size + 1), v] (Value.ref (hp.objs.size + 1) :: us) := .cons rfl r1
  have bnd := hb _ (Value.ref (hp.objs.size + 1) :: us) I2.kIn (by rw [List.append_nil, List.length_cons, nus]; rfl)
  rw [List.append_nil] at bnd
  show wpAny _ _ (call (.ref (He.ga X.K x)) us) _ _ _
  refine wpAny_call (PySem.HandSPX.call_own PySem.F.excBase_Exception hT hC (PySem.W.looks_findIn I1.kIn iC) (fun self => PySem.W.bind_fn I1.kIn self tI) (by rw [nus, sizeLine_eq]; omega) ?_)
  refine codeAny_mono (F1.run _ X.stack _ _ ⟨Value.ref (hp.objs.size + 1) :: us, []⟩ _ _ (fun u H2 => u = .non ∧ ∃ dx, H1 dx = none ∧ dx ≠ hp.objs.size + 1 ∧ H2 = upd (upd (upd H1 (hp.objs.size + 1) (exo (hp.objs.size + 1) (He.ga X.K x) none)) dx (exd dx [("thing", v)])) (hp.objs.size + 1) (exo (hp.objs.size + 1) (He.ga X.K x) (some dx))) (fun _ _ _ => False)
    ((hr.mono (Nat.le_refl _)).make (He.ga X.K x) us [] |>.mono hk) hG (I2.env0.make (He.ga X.K x) us []) bnd tie ⟨_, _, _, rfl, T, upd_same, fun dx n ne => ⟨rfl, dx, by rw [upd_ne ne] at n; exact n, ne, rfl⟩⟩) fun r s' hq' => ?_
  cases r with
  | error er => exact hq'.elim
  | ok fl =>
    cases fl with
    | ret u =>
      obtain ⟨w2, H2, os2, bare2, un2, hok2, rv, ev, dx, n, ne, rfl⟩ := hq'
      subst ev
      have e2 := two_upd (H := H1) (o1 := exo (hp.objs.size + 1) (He.ga X.K x) none) (o2 := exd dx [("thing", v)]) (o3 := exo (hp.objs.size + 1) (He.ga X.K x) (some dx)) (Ne.symm ne)
      rw [e2] at un2 hok2
      have J := I2.call' (ch := []) os2 un2 hok2 bare2 (fun b z => absurd z (by simp))
      exact ⟨rv, .ref (hp.objs.size + 1), _, J, rfl, q _ dx fresh n ne⟩
    | next => exact False.elim hq'
    | brk => exact False.elim hq'
    | cont => exact False.elim hq'
variable {g : Gd} {E : XK} {m : List Nat} {fe : FE}
/-- an error of ours made of what e tells -/
def fErr (n : Str) (f : FE) : FE := fun ρ q x => f ρ (fun d => q (.err n d)) x
theorem Is.errOf {K : PySem.W.Frag} {F : Hp} {a dx : Addr} {n : Str} {v : V} {d : D} (ne : dx ≠ a) (h : Is K F v d) (ha : F a = none) (hd : F dx = none) : Is K (upd (upd F a (exo a (He.ga K n) (some dx))) dx (exd dx [("thing", v)])) (.ref a) (.err n d) := by
  have n2 : upd F a (exo a (He.ga K n) (some dx)) dx = none := by rw [upd_ne ne]; exact hd
  exact .err (by rw [upd_ne (Ne.symm ne), upd_same]) upd_same (h.up ((upd_ex ha).trans (upd_ex n2)))
theorem de_err (M : Mkr X.prog X.w X.K X.mg X.base x) (hr : Room (k + 1) X.A) (hk : 1 ≤ k) (hG : X.A.guards = some []) (hg : Gl X x) (he : DE X g E m e fe)
    (hs : starEach [e] X.env = (false, eval e X.env) :: starEach [] X.env := by rfl) (hdb : (x == ("__debug__" : Str)) = false := by decide) :
    DE X g E m (.Call (.Name x p) [e] [] pos) (fErr x fe) :=
  PEimp (pe_err M hr hk hG hg he hs hdb) fun σ H Q ⟨H0, F0, F, ρ, q, y, R, hf, hq, hx⟩ => ⟨H0, F0, F, ρ, _, y, R, hf, fun v H1 F1 d r1 i1 hb => fun a dx na nd ne => by
    have r2 := r1.new (o := exo a (He.ga X.K x) (some dx)) na
    have n2 : upd H1 a (exo a (He.ga X.K x) (some dx)) dx = none := by rw [upd_ne ne]; exact nd
    have r3 := r2.new (o := exd dx [("thing", v)]) n2
    exact hq _ _ _ _ (r1.trans (r2.trans r3)) (i1.errOf ne (r1.freeF na) (r1.freeF nd)) hb, hx⟩
end
/-! ### what it carries, its classes -/
section
variable {X : Cx} {pins : List (Addr × Obj)} {σ : L2.St} {H : Hp} {s : Shared} {a dx C : Addr} {fs : List (Str × V)}
theorem err_at (I : Inv X pins σ H s) (ea : H a = some (exo a C (some dx))) (ed : H dx = some (exd dx fs)) : ∃ (oe od : Obj) (mA : Str → Option Value), PySem.W.InstAt s.heap a oe C (some od) ∧ (∀ f, PySem.W.lookIn f od = some (mA f)) ∧ ∀ f, RelO (fs.lookup f) (mA f) := by
  obtain ⟨t1, he⟩ := exo_at I.hok ea
  obtain ⟨mA, hns, hr⟩ := exd_at I.hok ed
  obtain ⟨od, ho, hl⟩ := lookIn_ns hns
  exact ⟨_, od, mA, ⟨he, rfl, rfl, ho⟩, hl, hr⟩
end
section
variable {X : Cx} {e : Expr} {te : TE} {p pos : Pos}
theorem pe_thing (he : PE X e te) (hb : attributeBase e "thing" X.env (eval e X.env) = eval e X.env := by rfl) :
    PE X (.Attribute e "thing" pos) (fun σ H Q => te σ H fun v H1 => ∃ a dx C w, v = .ref a ∧ H1 a = some (exo a C (some dx)) ∧ H1 dx = some (exd dx [("thing", w)]) ∧ ErrX X.K C ∧ Q w H1) := by
  refine ⟨fun pins s σ H Q I h => ?_⟩
  refine attr_of hb (thn (he.run pins s σ H _ I h) fun u s1 hh => ?_)
  obtain ⟨x, H1, I1, rx, a, dx, C, w, ex, ea, ed, T, q⟩ := hh
  subst ex
  obtain rfl : u = Value.ref a := rx
  obtain ⟨oe, od, mA, J, hl, hr⟩ := err_at I1 ea ed
  obtain ⟨u, hu, ru⟩ := RelO.some_of (v := w) (o := mA "thing") (hr "thing")
  exact PySem.HandSPX.exc_get I1.kIn J T.xf.ga T.xf.gg T.xf.exC (PySem.W.findObj_own T.xf.hdC T.no rfl (by rw [hl, hu])) (handed_of ru) ⟨w, H1, I1.tok _, ru, q⟩
/-- isinstance of an error of ours, one class -/
def rIsaP (K : PySem.W.Frag) : List V → Hp → VK → Prop := fun xs H Q => ∃ (a dx C : Addr) (w c : V) (u : Value) (b : Bool), xs = [.ref a, c] ∧ ClsV c u ∧ H a = some (exo a C (some dx)) ∧ H dx = some (exd dx [("thing", w)]) ∧ ErrX K C ∧ PySem.W.kitOne K (.ref C) u = some b ∧ Q (.bl b) H
theorem call_isaP : CallR X (.builtin "isinstance") (rIsaP X.K) := by
  intro pins s σ H xs us Q I r h
  obtain ⟨a, dx, C, w, c, u, b, rfl, k, ea, ed, T, e, q⟩ := h
  obtain ⟨u1, u2, rfl, r1, r2⟩ := vals2 r
  have e2 := k.eq r2
  subst e2
  obtain rfl : u1 = Value.ref a := r1
  obtain ⟨oe, od, mA, J, hl, hr⟩ := err_at I ea ed
  exact PySem.W.kia_one (T.ko a oe (some od)) I.kIn J e (fun z => nomatch z) fun tk => ⟨.bl b, H, I.tok tk, rfl, q⟩
/-- .. several classes -/
def rIsaQ (K : PySem.W.Frag) : List V → Hp → VK → Prop := fun xs H Q => ∃ (a dx C tp : Addr) (w : V) (cs : List V) (us : List Value) (b : Bool), xs = [.ref a, .ref tp] ∧ H tp = some (.tup cs) ∧ Paired ClsV cs us ∧ H a = some (exo a C (some dx)) ∧ H dx = some (exd dx [("thing", w)]) ∧ ErrX K C ∧ PySem.W.kitAny K (.ref C) us = some b ∧ Q (.bl b) H
theorem call_isaQ : CallR X (.builtin "isinstance") (rIsaQ X.K) := by
  intro pins s σ H xs us Q I r h
  obtain ⟨a, dx, C, tp, w, cs, ws, b, rfl, hT, k, ea, ed, T, e, q⟩ := h
  obtain ⟨u1, u2, rfl, r1, r2⟩ := vals2 r
  cases (show u2 = Value.ref tp from r2)
  obtain rfl : u1 = Value.ref a := r1
  obtain ⟨oe, od, mA, J, hl, hr⟩ := err_at I ea ed
  obtain ⟨_, its, rv, o, h1, h2, n, h3⟩ := (show ObjOk X.prog X.w H s.heap tp (.tup cs) from I.hok tp _ hT)
  have e3 := ClsV.all k rv
  subst e3
  obtain ⟨oc, odd, dt, sl⟩ := o
  simp only at h2 h3
  subst h2 h3
  exact PySem.W.kia_tup (T.ko a oe (some od)) I.kIn J h1 e (fun z => nomatch z) fun tk => ⟨.bl b, H, I.tok tk, rfl, q⟩
end
/-! ### over data -/
/-- what the written part says of our classes of errors -/
structure ErrT (K : PySem.W.Frag) (errs : List Str) : Prop where
  x : ∀ n ∈ errs, ErrX K (He.ga K n)
def sThing (errs : List Str) : Sem1T := fun a q _ => match a with | .err n d => n ∈ errs ∧ q d | _ => False
/-- isinstance(e, C), C a class with the value u; b tells -/
def sIsa (errs : List Str) (b : Str → Bool) : Sem1T := fun a q _ => match a with | .err n _ => n ∈ errs ∧ q (.bl (b n)) | _ => False
theorem IsB.err {K : PySem.W.Frag} {g : Gd} {F H : Hp} {v : V} {n : Str} {d : D} (s : Ex F H) (h : IsB K g F H v (.err n d)) : ∃ a dx w, v = .ref a ∧ H a = some (exo a (He.ga K n) (some dx)) ∧ H dx = some (exd dx [("thing", w)]) ∧ Is K F w d := by
  rcases h with h | ⟨a, o, rfl, h1, _, h3⟩
  · cases h with
    | err h1 h2 h3 => exact ⟨_, _, _, rfl, s _ _ h1, s _ _ h2, h3⟩
  · cases h3
section
variable {X : Cx} {g : Gd} {E : XK} {m : List Nat} {a : Expr} {fa : FE} {p pos : Pos} {errs : List Str} {b : Str → Bool}
theorem de_thing (T : ErrT X.K errs) (ha : DB X g E m a fa) (hb : attributeBase a "thing" X.env (eval a X.env) = eval a X.env := by rfl) : DE X g E m (.Attribute a "thing" pos) (f1 (sThing errs) fa) :=
  PEimp (pe_thing ha hb) fun σ H Q ⟨H0, F0, F, ρ, q, x, R, hf, hq, hx⟩ => ⟨H0, F0, F, ρ, _, x, R, hf, fun v H1 F1 d r1 i1 hs => by
    unfold sThing at hs
    split at hs
    · obtain ⟨hn, hs⟩ := hs
      obtain ⟨c, dx, w, rfl, e1, e2, e3⟩ := i1.err r1.sub
      exact ⟨c, dx, _, w, rfl, e1, e2, T.x _ hn, hq w H1 F1 _ r1 e3 hs⟩
    · exact hs.elim, hx⟩
/-- one class -/
theorem de_isa {e2 : Expr} {c : V} {u : Value} (T : ErrT X.K errs) (k : ClsV c u) (hk : ∀ n ∈ errs, PySem.W.kitOne X.K (.ref (He.ga X.K n)) u = some (b n)) (hg : Gl X "isinstance") (hm : X.mg "isinstance" = none) (ha : DB X g E m a fa) (hc : PE X e2 (tC c))
    (hb : bootBuiltins "isinstance" = some (.builtin "isinstance") := by decide +kernel) (h1 : starEach [a, e2] X.env = (false, eval a X.env) :: starEach [e2] X.env := by rfl) (h2 : starEach [e2] X.env = (false, eval e2 X.env) :: starEach [] X.env := by rfl) (hpl : (backTo pos (starEach [e2] X.env)).any (·.1) = false := by rfl) :
    DE X g E m (.Call (.Name "isinstance" p) [a, e2] [] pos) (f1 (sIsa errs b) fa) :=
  PEimp (pe_callB call_isaP hg hm hb (pa_cons ha (pa_cons hc pa_nil h2) h1) (he := h1) (hpl := hpl)) fun σ H Q ⟨H0, F0, F, ρ, q, x, R, hf, hq, hx⟩ => ⟨H0, F0, F, ρ, _, x, R, hf, fun v H1 F1 d r1 i1 hs => by
    unfold sIsa at hs
    split at hs
    · rename_i n t
      obtain ⟨hn, hs⟩ := hs
      obtain ⟨ad, dx, w, rfl, e1, e2, e3⟩ := i1.err r1.sub
      exact ⟨ad, dx, _, w, c, u, b n, rfl, k, e1, e2, T.x _ hn, hk n hn, hq _ H1 F1 _ r1 (.bl _) hs⟩
    · exact hs.elim, hx⟩
/-- several built-in classes -/
theorem de_isaQ {es : List Expr} {kx : Nat} {tp : Pos} {cs : List V} {us : List Value} (T : ErrT X.K errs) (k : Paired ClsV cs us) (hk : ∀ n ∈ errs, PySem.W.kitAny X.K (.ref (He.ga X.K n)) us = some (b n)) (hg : Gl X "isinstance") (hm : X.mg "isinstance" = none) (ha : DB X g E m a fa) (hc : PA X es (fun σ H Q => Q cs H))
    (hl : cs.length ≤ LN := by exact Nat.le_of_ble_eq_true rfl) (hb : bootBuiltins "isinstance" = some (.builtin "isinstance") := by decide +kernel) (h1 : starEach [a, .Tuple es kx tp] X.env = (false, eval a X.env) :: starEach [.Tuple es kx tp] X.env := by rfl) (h2 : starEach [.Tuple es kx tp] X.env = (false, eval (.Tuple es kx tp) X.env) :: starEach [] X.env := by rfl) (hpl : (backTo pos (starEach [.Tuple es kx tp] X.env)).any (·.1) = false := by rfl) :
    DE X g E m (.Call (.Name "isinstance" p) [a, .Tuple es kx tp] [] pos) (f1 (sIsa errs b) fa) :=
  PEimp (pe_callB call_isaQ hg hm hb (pa_cons ha (pa_cons (pe_tup hc) pa_nil h2) h1) (he := h1) (hpl := hpl)) fun σ H Q ⟨H0, F0, F, ρ, q, x, R, hf, hq, hx⟩ => ⟨H0, F0, F, ρ, _, x, R, hf, fun v H1 F1 d r1 i1 hs => by
    unfold sIsa at hs
    split at hs
    · rename_i n t
      obtain ⟨hn, hs⟩ := hs
      obtain ⟨ad, dx, w, rfl, e1, e2, e3⟩ := i1.err r1.sub
      refine ⟨LN_line hl, fun l nl => ?_⟩
      have r2 := r1.new (o := HO.tup cs) nl
      have ex : Ex H1 (upd H1 l (.tup cs)) := upd_ex nl
      exact ⟨ad, dx, _, l, w, cs, us, b n, rfl, upd_same, k, ex _ _ e1, ex _ _ e2, T.x _ hn, hk n hn, hq _ _ _ _ (r1.trans r2) (.bl _) hs⟩
    · exact hs.elim, hx⟩
end
end DL

/-! DL35: X(thing=e), X a class of errors of ours. -/
namespace PySem.HandSPX
open PySem Builtin Builtin.ObjectAttr
section
variable {prog : Program} {w : World} {A : Around} {M : Model} {E : Value → Shared → Prop} {R : Result → Shared → Prop} {h : Heap} {g : Array GenState} {d : Drawn} {t : Nat} {os : OsState}
variable {nm q : Str} {C N : Addr} {bs bm bmB : List Value} {hdct : Bool} {sn : List Str} {sub : List Value} {ab : Bool} {col : Option Bool} {dd : Option Addr} {k0 k1 k2 k3 k5 : Option Value} {B newId initId : String}
theorem check_newK (F : ExcBaseFacts B newId initId bmB) (hT : ∀ X : String, bm.contains (.type X) = bmB.contains (.type X)) {rest : List Value} {kws : List (Str × Value)} {Q : Unit → Shared → Prop}
    (hC : h.get? C = some (excClassObj nm q C N bs bm hdct sn sub ab col dd k0 k1 k2 k3 k5 newId)) (hq : Q () ⟨h, g, d, t, os⟩) : wpAny M A (checkBuiltinCall newId ⟨.ref C :: rest, kws⟩) Q E ⟨h, g, d, t, os⟩ := by
  have hcont : (Value.ref C :: bm).contains (.type B) = true := by rw [List.contains_cons, hT, F.hasB, Bool.or_true]
  have hstar := F.noStar
  simp only [checkBuiltinCall, F.newKind, F.newSplit, F.newRow]
  repeat (first | refine wpAny_loadPart_at hC ?_ | (refine wpAny_isSubtype_exc hC ?_; rw [hcont]) | refine wpAny_staticBase_exc hC ?_ | refine wpAny_madeBy_exc hC ?_ | simp only [bne_self_eq_false, Bool.false_eq_true, if_false] | wp_step)
  exact hq
theorem newK (F : ExcBaseFacts B newId initId bmB) (hT : ∀ X : String, bm.contains (.type X) = bmB.contains (.type X)) {rest : List Value} {kws : List (Str × Value)}
    (hC : h.get? C = some (excClassObj nm q C N bs bm hdct sn sub ab col dd k0 k1 k2 k3 k5 newId))
    (hq : R (.ok (.ret (.ref (h.objs.size + 1)))) ⟨(h.push { cls := .type "tuple", data := .seq rest.toArray }).push
      { cls := .ref C, data := .fields #[.ref h.objs.size, .none, .none, .none, .bool false, .none] }, g, d, t, os⟩) (hrest : rest.length ≤ sizeLine) :
    codeAny (model prog w) A (.builtin newId ⟨.ref C :: rest, kws⟩) R ⟨h, g, d, t, os⟩ := by
  have hends := F.ends
  have hcB : (Value.ref C :: bm).contains (.type B) = true := by rw [List.contains_cons, hT, F.hasB, Bool.or_true]
  have hcA : (Value.ref C :: bm).contains (.type "AttributeError") = false := by rw [List.contains_cons, hT, F.noAttr]; rfl
  have hcN : (Value.ref C :: bm).contains (.type "NameError") = false := by rw [List.contains_cons, hT, F.noName]; rfl
  refine codeAny_builtinAt F.entry ?_
  unfold Builtin.«BaseException.__new__»
  refine wpAt_bind ?_
  show wpAt _ _ _ (stack >>= _) _ _ _
  refine wpAt_bind (wpAt_stack fun p below => wpAt_of_wpAny ?_)
  wp_walk
  refine wpAt_of_wpAny ?_
  rw [F.owner]
  repeat (first | with_reducible refine wpAny_madeHere_exc F.canon hC ?_ | with_reducible refine wpAny_loadPart_at hC ?_ | (with_reducible refine wpAny_isSubtype_exc hC ?_; first | rw [hcB] | rw [hcA] | rw [hcN]) | wp_step)
  show R _ _
  rw [Heap.size_push]
  exact hq
theorem type_callK (F : ExcBaseFacts B newId initId bmB) (hT : ∀ X : String, bm.contains (.type X) = bmB.contains (.type X)) {rest : List Value} {kws : List (Str × Value)} {fI : Addr} {Q : Fin → Shared → Prop}
    (hC : h.get? C = some (excClassObj nm q C N bs bm hdct sn sub ab col dd k0 k1 k2 k3 k5 newId))
    (hi : W.Looks (model prog w) h (typeLookup (.ref C) "__init__") (some (.ref fI))) (hb : ∀ self, W.Looks (model prog w) h (bindSpecial (.ref fI) self) (.ref fI, [self])) (hrest : rest.length ≤ sizeLine)
    (hq : codeAny (model prog w) A (.call (.ref fI) ⟨.ref (h.objs.size + 1) :: rest, kws⟩)
      (fun r s' => match r with | .ok (.ret v) => v = .none ∧ Q (.done (.ret (.ref (h.objs.size + 1)))) s' | .ok _ => False | .error e => E e s')
      ⟨(h.push (W.kdv_tup rest)).push (excO C h.objs.size), g, d, t, os⟩) :
    wpAny (model prog w) A (Builtin.«type.__call__» ⟨.ref C :: rest, kws⟩) Q E ⟨h, g, d, t, os⟩ := by
  repeat (first | with_reducible refine wpAny_loadPart_at hC ?_ | with_reducible refine wpAny_madeBy_exc hC ?_ | wp_step)
  refine codeAny_call_builtin_code (Code.quiet_builtin _ F.quiet) (check_newK F hT hC ?_)
  refine newK F hT hC ?_ hrest
  show wpAny _ _ _ _ _ _
  have k : ∀ b o, h.get? b = some o → ((h.push (W.kdv_tup rest)).push (excO C h.objs.size)).get? b = some o := fun b o e => Heap.get?_push_of_some _ (Heap.get?_push_of_some _ e)
  have hC₁ := k _ _ hC
  have hget : ((h.push (W.kdv_tup rest)).push (excO C h.objs.size)).get? (h.objs.size + 1) = some (excO C h.objs.size) := by heap_get
  have hcC : (Value.ref C :: bm).contains (.ref C) = true := by simp
  have i1 := hi.keeps k
  have b1 := (hb (.ref (h.objs.size + 1))).keeps k
  unfold isInstance
  repeat (first | with_reducible refine wpAny_loadPart_at hget ?_ | (with_reducible refine wpAny_isSubtype_exc hC₁ ?_; rw [hcC]) | wp_step)
  show wpAny _ _ (typeLookup (.ref C) _) _ _ _
  refine i1.at ?_
  refine wpAny_holding (wpAny_bind (b1.at ?_))
  refine wpAny_bind (wpAny_call (codeAny_mono hq fun r s' z => ?_))
  rcases r with e | (v | _ | _ | _) <;> first | exact z | exact z.elim | skip
  obtain ⟨rfl, z⟩ := z
  first
    | exact wpAny_pure (wpAny_pure z)
    | (wp_walk; exact z)
theorem callK (F : ExcBaseFacts B newId initId bmB) (hT : ∀ X : String, bm.contains (.type X) = bmB.contains (.type X)) {rest : List Value} {kws : List (Str × Value)} {fI : Addr}
    (hC : h.get? C = some (excClassObj nm q C N bs bm hdct sn sub ab col dd k0 k1 k2 k3 k5 newId))
    (hi : W.Looks (model prog w) h (typeLookup (.ref C) "__init__") (some (.ref fI))) (hb : ∀ self, W.Looks (model prog w) h (bindSpecial (.ref fI) self) (.ref fI, [self])) (hrest : rest.length ≤ sizeLine)
    (hq : codeAny (model prog w) (A.under (.builtin "type.__call__" ⟨.ref C :: rest, kws⟩)) (.call (.ref fI) ⟨.ref (h.objs.size + 1) :: rest, kws⟩) (W.InitBack (h.objs.size + 1) R)
      ⟨(h.push (W.kdv_tup rest)).push (excO C h.objs.size), g, d, t, os⟩) :
    codeAny (model prog w) A (.call (.ref C) ⟨rest, kws⟩) R ⟨h, g, d, t, os⟩ := by
  have f1 := tc_lookup
  have f2 := tc_bind (.ref C)
  have hTy : (⟨h, g, d, t, os⟩ : Shared).TypeIs (.ref C) "type" := ⟨_, hC, rfl⟩
  refine codeAny_of_tree ?_
  show wpAny _ _ (callAny (.ref C) _) _ _ _
  repeat (any_goals (first | assumption | with_reducible refine wpAny_loadPart_at hC ?_ | wp_step))
  refine ⟨rfl, ?_⟩
  refine codeAny_call_builtin_at (Code.quiet_builtin _ (by decide +kernel)) entry_typeCall (wpAny_check_type_call_sub hC (type_callK F hT hC hi hb hrest ?_))
  refine codeAny_mono hq fun r s' z => ?_
  rcases r with e | (v | _ | _ | _) <;> exact z
end
end PySem.HandSPX
namespace DL
open PySem PySem.Spec PyProof.Rows L2
/-- a class of errors as it is called with its keyword -/
structure MkrK (P : Program) (w : World) (K : PySem.W.Frag) (mg : Str → Option Value) (base : Heap) (x : Str) : Prop where
  ex : ∃ (fI : Addr) (fd : FuncData), FnG P w K mg base CX0 1 fI fd ["self", "thing"] (spInit K) ∧ PySem.W.findIn K (.ref (He.ga K x)) "__init__" = some (some (.ref fI)) ∧ PySem.W.typeIn K (.ref fI) = some (.type "function") ∧ KB K fd ["self", "thing"] 1 ["thing"] [0, 1] ∧ mg x = some (.ref (He.ga K x))
  err : ErrC K (He.ga K x)
section
variable {X : Cx} {x : Str} {e : Expr} {tk : TA} {p pos : Pos} {k : Nat} {kws : List Keyword}
theorem pe_errK (M : MkrK X.prog X.w X.K X.mg X.base x) (hr : Room (k + 1) X.A) (hk : 1 ≤ k) (hG : X.A.guards = some []) (hg : Gl X x)
    (hkw : PK X kws tk) (hall : (backToKw pos (keywordEach kws X.env)).all (·.1.isSome) = true := by rfl) (hks : (backToKw pos (keywordEach kws X.env)).filterMap (·.1) = [("thing" : Str)] := by rfl)
    (hdb : (x == ("__debug__" : Str)) = false := by decide)
    (hpl : ((backTo pos (starEach [] X.env)).any (·.1) || (backToKw pos (keywordEach kws X.env)).any (·.1.isNone)) = false := by rfl) :
    PE X (.Call (.Name x p) [] kws pos) (fun σ H Q => tk σ H fun vs H1 => ∃ v, vs = [v] ∧ ∀ a dx, H1 a = none → H1 dx = none → dx ≠ a → Q (.ref a) (upd (upd H1 a (exo a (He.ga X.K x) (some dx))) dx (exd dx [("thing", v)]))) := by
  obtain ⟨fI, fd, F1, iC, tI, hb, hm⟩ := M.ex
  have T := M.err
  refine ⟨fun pins s σ H Q I h => ?_⟩
  refine wpAny_Call_Name_kw (ld_glob I hg hm ?_ hdb)
  refine PySem.W.callWith_KW0 (h₀ := X.base) I.ok.mod.kin T.kp hall ?_ hpl
  refine thn (hkw.run pos pins s σ H _ I h) fun us s1 ⟨vs, H1, I1, r1, q0⟩ => ⟨I1.kIn, ?_⟩
  rw [hks]
  obtain ⟨v, rfl, q⟩ := q0
  obtain ⟨hp, g, dr, tk, os⟩ := s1
  obtain ⟨nm, N', qn, bs, bm, hdct, sn, sub, ab, col, dd, k0, k1, k2, k3, k5, hC, hT⟩ := PySem.W.excInit_of I1.kIn T.init
  have gt : hp.objs.size ≤ hp.objs.size + 1 := Nat.le_succ _
  have fresh : H1 (hp.objs.size + 1) = none := I1.hok.fresh gt
  have keep : ∀ b o, hp.get? b = some o → ((hp.push (PySem.W.kdv_tup [])).push (PySem.HandSPX.excO (He.ga X.K x) hp.objs.size)).get? b = some o := fun b o z => Heap.get?_push_of_some _ (Heap.get?_push_of_some _ z)
  have there : ((hp.push (PySem.W.kdv_tup [])).push (PySem.HandSPX.excO (He.ga X.K x) hp.objs.size)).get? (hp.objs.size + 1) = some (PySem.HandSPX.excO (He.ga X.K x) hp.objs.size) := by heap_get
  have I2 := I1.laid (t' := tk) (a := hp.objs.size + 1) (o := exo (hp.objs.size + 1) (He.ga X.K x) none) keep gt (exo_ok there)
  have nus : us.length = 1 := (Paired.length r1).symm
  obtain ⟨u, rfl⟩ : ∃ u, us = [u] := by
    match us, nus with
    | [u], _ => exact ⟨u, rfl⟩
  have tie : Vals [V.ref (hp.objs.size + 1), v] [Value.ref (hp.objs.size + 1), u] := .cons rfl r1
  have bnd := hb _ [Value.ref (hp.objs.size + 1)] [u] I2.kIn rfl rfl
  show wpAny _ _ (call (.ref (He.ga X.K x)) ([] ++ []) ([("thing" : Str)].zip [u])) _ _ _
  refine wpAny_call (PySem.HandSPX.callK PySem.F.excBase_Exception hT hC (PySem.W.looks_findIn I1.kIn iC) (fun self => PySem.W.bind_fn I1.kIn self tI) (Nat.zero_le _) ?_)
  refine codeAny_mono (F1.run _ X.stack _ _ ⟨[Value.ref (hp.objs.size + 1)], [("thing", u)]⟩ _ _ (fun u H2 => u = .non ∧ ∃ dx, H1 dx = none ∧ dx ≠ hp.objs.size + 1 ∧ H2 = upd (upd (upd H1 (hp.objs.size + 1) (exo (hp.objs.size + 1) (He.ga X.K x) none)) dx (exd dx [("thing", v)])) (hp.objs.size + 1) (exo (hp.objs.size + 1) (He.ga X.K x) (some dx))) (fun _ _ _ => False)
    ((hr.mono (Nat.le_refl _)).make (He.ga X.K x) [] [("thing", u)] |>.mono hk) hG (I2.env0.make (He.ga X.K x) [] [("thing", u)]) bnd tie ⟨_, _, _, rfl, T, upd_same, fun dx n ne => ⟨rfl, dx, by rw [upd_ne ne] at n; exact n, ne, rfl⟩⟩) fun r s' hq' => ?_
  cases r with
  | error er => exact hq'.elim
  | ok fl =>
    cases fl with
    | ret u =>
      obtain ⟨w2, H2, os2, bare2, un2, hok2, rv, ev, dx, n, ne, rfl⟩ := hq'
      subst ev
      have e2 := two_upd (H := H1) (o1 := exo (hp.objs.size + 1) (He.ga X.K x) none) (o2 := exd dx [("thing", v)]) (o3 := exo (hp.objs.size + 1) (He.ga X.K x) (some dx)) (Ne.symm ne)
      rw [e2] at un2 hok2
      have J := I2.call' (ch := []) os2 un2 hok2 bare2 (fun b z => absurd z (by simp))
      exact ⟨rv, .ref (hp.objs.size + 1), _, J, rfl, q _ dx fresh n ne⟩
    | next => exact False.elim hq'
    | brk => exact False.elim hq'
    | cont => exact False.elim hq'
/-- .. raised -/
theorem pmk_errK (M : MkrK X.prog X.w X.K X.mg X.base x) (hr : Room (k + 1) X.A) (hk : 1 ≤ k) (hG : X.A.guards = some []) (hg : Gl X x)
    (hkw : PK X kws tk) (hall : (backToKw pos (keywordEach kws X.env)).all (·.1.isSome) = true := by rfl) (hks : (backToKw pos (keywordEach kws X.env)).filterMap (·.1) = [("thing" : Str)] := by rfl)
    (hdb : (x == ("__debug__" : Str)) = false := by decide)
    (hpl : ((backTo pos (starEach [] X.env)).any (·.1) || (backToKw pos (keywordEach kws X.env)).any (·.1.isNone)) = false := by rfl) :
    PMk X (.Call (.Name x p) [] kws pos) (fun σ H Q => tk σ H fun vs H1 => ∃ v, vs = [v] ∧ ∀ d, H1 d = none → Q (.ref (He.ga X.K x)) (some d) (upd H1 d (.xd [("thing", v)]))) := by
  obtain ⟨fI, fd, F1, iC, tI, hb, hm⟩ := M.ex
  have T := M.err
  intro pins s σ H Q I h
  refine wpAny_Call_Name_kw (ld_glob I hg hm ?_ hdb)
  refine PySem.W.callWith_KW0 (h₀ := X.base) I.ok.mod.kin T.kp hall ?_ hpl
  refine thn (hkw.run pos pins s σ H _ I h) fun us s1 ⟨vs, H1, I1, r1, q0⟩ => ⟨I1.kIn, ?_⟩
  rw [hks]
  obtain ⟨v, rfl, q⟩ := q0
  obtain ⟨hp, g, dr, tk, os⟩ := s1
  obtain ⟨nm, N', qn, bs, bm, hdct, sn, sub, ab, col, dd, k0, k1, k2, k3, k5, hC, hT⟩ := PySem.W.excInit_of I1.kIn T.init
  have gt : hp.objs.size ≤ hp.objs.size + 1 := Nat.le_succ _
  have fresh : H1 (hp.objs.size + 1) = none := I1.hok.fresh gt
  have keep : ∀ b o, hp.get? b = some o → ((hp.push (PySem.W.kdv_tup [])).push (PySem.HandSPX.excO (He.ga X.K x) hp.objs.size)).get? b = some o := fun b o z => Heap.get?_push_of_some _ (Heap.get?_push_of_some _ z)
  have there : ((hp.push (PySem.W.kdv_tup [])).push (PySem.HandSPX.excO (He.ga X.K x) hp.objs.size)).get? (hp.objs.size + 1) = some (PySem.HandSPX.excO (He.ga X.K x) hp.objs.size) := by heap_get
  have I2 := I1.laid (t' := tk) (a := hp.objs.size + 1) (o := exo (hp.objs.size + 1) (He.ga X.K x) none) keep gt (exo_ok there)
  have nus : us.length = 1 := (Paired.length r1).symm
  obtain ⟨u, rfl⟩ : ∃ u, us = [u] := by
    match us, nus with
    | [u], _ => exact ⟨u, rfl⟩
  have tie : Vals [V.ref (hp.objs.size + 1), v] [Value.ref (hp.objs.size + 1), u] := .cons rfl r1
  have bnd := hb _ [Value.ref (hp.objs.size + 1)] [u] I2.kIn rfl rfl
  show wpAny _ _ (call (.ref (He.ga X.K x)) ([] ++ []) ([("thing" : Str)].zip [u])) _ _ _
  refine wpAny_call (PySem.HandSPX.callK PySem.F.excBase_Exception hT hC (PySem.W.looks_findIn I1.kIn iC) (fun self => PySem.W.bind_fn I1.kIn self tI) (Nat.zero_le _) ?_)
  refine codeAny_mono (F1.run _ X.stack _ _ ⟨[Value.ref (hp.objs.size + 1)], [("thing", u)]⟩ _ _ (fun u H2 => u = .non ∧ ∃ dx, H1 dx = none ∧ dx ≠ hp.objs.size + 1 ∧ H2 = upd (upd (upd H1 (hp.objs.size + 1) (exo (hp.objs.size + 1) (He.ga X.K x) none)) dx (exd dx [("thing", v)])) (hp.objs.size + 1) (exo (hp.objs.size + 1) (He.ga X.K x) (some dx))) (fun _ _ _ => False)
    ((hr.mono (Nat.le_refl _)).make (He.ga X.K x) [] [("thing", u)] |>.mono hk) hG (I2.env0.make (He.ga X.K x) [] [("thing", u)]) bnd tie ⟨_, _, _, rfl, T, upd_same, fun dx n ne => ⟨rfl, dx, by rw [upd_ne ne] at n; exact n, ne, rfl⟩⟩) fun r s' hq' => ?_
  cases r with
  | error er => exact hq'.elim
  | ok fl =>
    cases fl with
    | ret u =>
      obtain ⟨w2, H2, os2, bare2, un2, hok2, rv, ev, dx, n, ne, rfl⟩ := hq'
      subst ev
      obtain ⟨h2, g2, d2, t2, os'⟩ := s'
      refine ⟨rv, mk_end (raises_own T.ex T.ty) I1 gt keep un2 hok2 os2 bare2 upd_same (by rw [upd_ne ne, upd_same]) n ?_⟩
      rw [del_new fresh ne]
      exact q dx n
    | next => exact False.elim hq'
    | brk => exact False.elim hq'
    | cont => exact False.elim hq'
variable {g : Gd} {E : XK} {m : List Nat} {fk : FA}
def fErrK (n : Str) (f : FA) : FE := fun ρ q x => f ρ (fun ds => match ds with | [d] => q (.err n d) | _ => False) x
theorem de_errK (M : MkrK X.prog X.w X.K X.mg X.base x) (hr : Room (k + 1) X.A) (hk : 1 ≤ k) (hG : X.A.guards = some []) (hg : Gl X x)
    (hkw : DK X g E m kws fk) (hall : (backToKw pos (keywordEach kws X.env)).all (·.1.isSome) = true := by rfl) (hks : (backToKw pos (keywordEach kws X.env)).filterMap (·.1) = [("thing" : Str)] := by rfl)
    (hdb : (x == ("__debug__" : Str)) = false := by decide)
    (hpl : ((backTo pos (starEach [] X.env)).any (·.1) || (backToKw pos (keywordEach kws X.env)).any (·.1.isNone)) = false := by rfl) :
    DE X g E m (.Call (.Name x p) [] kws pos) (fErrK x fk) :=
  PEimp (pe_errK M hr hk hG hg hkw hall hks hdb hpl) fun σ H Q ⟨H0, F0, F, ρ, q, y, R, hf, hq, hx⟩ => ⟨H0, F0, F, ρ, _, y, R, hf, fun vs H1 F1 ds r1 i1 hb => by
    cases i1 with
    | nil => exact False.elim hb
    | @cons v vs d ds i1 i2 =>
      cases i2 with
      | cons _ _ => exact False.elim hb
      | nil =>
        refine ⟨v, rfl, fun a dx na nd ne => ?_⟩
        have r2 := r1.new (o := exo a (He.ga X.K x) (some dx)) na
        have n2 : upd H1 a (exo a (He.ga X.K x) (some dx)) dx = none := by rw [upd_ne ne]; exact nd
        have r3 := r2.new (o := exd dx [("thing", v)]) n2
        exact hq _ _ _ _ (r1.trans (r2.trans r3)) (i1.errOf ne (r1.freeF na) (r1.freeF nd)) hb, hx⟩
end
def fRaiseK (n : Str) (f : FA) : FS := fun ρ d => f ρ (fun ds => match ds with | [a] => d.x n a | _ => False) d.x
section
variable {X : Cx} {g : Gd} {E : XK} {k : Bool} {mb m m' : List Nat} {fk : FA} {x : Str} {p pos pos' : Pos} {j : Nat} {kws : List Keyword}
theorem ds_raiseK (hc : X.calm = true) (tk : Tk X E) (M : MkrK X.prog X.w X.K X.mg X.base x) (hr : Room j X.A) (hG : X.A.guards = some []) (hg : Gl X x) (hkw : DK X g E m kws fk) (hj : 2 ≤ j := by decide)
    (hall : (backToKw pos (keywordEach kws X.env)).all (·.1.isSome) = true := by rfl) (hks : (backToKw pos (keywordEach kws X.env)).filterMap (·.1) = [("thing" : Str)] := by rfl)
    (hdb : (x == ("__debug__" : Str)) = false := by decide) (hpl : ((backTo pos (starEach [] X.env)).any (·.1) || (backToKw pos (keywordEach kws X.env)).any (·.1.isNone)) = false := by rfl) :
    DS X g E k mb m m' (.Raise (some (.Call (.Name x p) [] kws pos)) none pos') (fRaiseK x fk) := by
  obtain ⟨i, rfl⟩ : ∃ i, j = i + 1 := ⟨j - 1, by omega⟩
  refine PSimp (L2.ps_raise hc tk (pmk_errK M hr (by omega) hG hg hkw hall hks hdb hpl)) fun D σ H ⟨H0, F0, F, ρ, d, R, hf, h1, h2, h3, h4, h5⟩ => ?_
  refine ⟨H0, F0, F, ρ, _, d.x, R, hf, fun vs H1 F1 ds r i hx => ?_, h5.step R.fr⟩
  cases i with
  | nil => exact False.elim hx
  | @cons v vs a ds i1 i2 =>
    cases i2 with
    | cons _ _ => exact False.elim hx
    | nil => exact ⟨v, rfl, fun dx nd => h5 x dx _ F1 v a ((R.fr.trans r).trans ((R.fr.trans r).newO nd)) (R.fr.back (r.back nd)) upd_same i1 hx⟩
end
end DL

/-! DL36: dicts that nobody writes any more (walked, asked); isinstance with several types; repr of any single value; enumerate of a name that holds a tuple or a list. -/
namespace DL
open PySem PySem.Spec PyProof.Rows L2
section
variable {X : Cx} {pins : List (Addr × Obj)} {σ : L2.St} {H : Hp} {s : Shared} {e : Expr} {t : TE}
theorem inv_frz {a : Addr} {kvs : List (Key × V)} (I : Inv X pins σ H s) (h : H a = some (.dK kvs)) : ∃ o, Inv X pins σ (upd H a (.frz o (.dK kvs))) s := by
  obtain ⟨hsz, hs, vs, kv, hd⟩ := (show ObjOk X.prog X.w H s.heap a (.dK kvs) from I.hok a _ h)
  obtain ⟨o, es, ep, ho, r⟩ := id hd
  exact ⟨o, I.write (x := a) (e := a) (o := .frz o (.dK kvs)) (h' := s.heap) (t' := s.toks) (by rw [h]; trivial) (.inl rfl) (fun b u _ z => z) ⟨o, ho⟩ ⟨ho, hsz, hs, vs, kv, hd⟩⟩
theorem pe_freeze (h : PE X e t) : PE X e (fun σ H Q => t σ H fun v H1 => ∃ p kvs, v = .ref p ∧ H1 p = some (.dK kvs) ∧ ∀ o, Q v (upd H1 p (.frz o (.dK kvs)))) :=
  ⟨fun pins s σ H Q I hq => thn (h.run pins s σ H _ I hq) fun u s1 ⟨v, H1, I1, r, p, kvs, ev, e, q⟩ => by
    obtain ⟨o, J⟩ := inv_frz I1 e
    exact ⟨_, _, J, r, q o⟩⟩
end
section
variable {X : Cx} {g : Gd} {E : XK} {m : List Nat} {e key : Expr} {f : FE} {fs : FA} {k : Key} {ks : List Key} {keys : List (Option Expr)} {values : List Expr} {pos p : Pos} {fa fb : FE} {a b : Expr}
def fDiz (ks : List Key) (fs : FA) : FE := fun ρ q x => fs ρ (fun ds => q (.diz ks ds)) x
theorem de_diz (h : DP X g E m pos keys values ks fs) (hn : ks.Nodup) (hall : keys.all (·.isSome) = true) (hl : keys.length = values.length) (h0 : keys ≠ []) (h15 : keys.length ≤ 15) (hkl : ks.length ≤ 15) : DE X g E m (.Dict keys values pos) (fDiz ks fs) := by
  obtain ⟨trs, h1, h2⟩ := h
  refine PEimp (pe_freeze (pe_disp h1 hall hl h0 h15)) fun σ H Q ⟨H0, F0, F, ρ, q, x, R, hf, hq, hx⟩ p hp => ?_
  have r0 := R.fr.newO (o := .dK []) hp
  have hM := R.fr.freeM hp
  have hF := R.fr.freeF hp
  refine h2 σ _ _ ⟨H0, F0, F, ρ, _, x, R.step r0, hf, fun vs H2 F2 ds r1 hl2 i hq2 => ?_, hx.step r0⟩
  have hH2 : H2 p = some (.dK []) := r1.pre p _ hM upd_same
  have hF2 : F2 p = none := (r1.old p (by rw [upd_same]; exact fun z => nomatch z)).trans hF
  refine ⟨hH2, ks.zip vs, ?_, ?_, ?_⟩
  · rw [List.zip_map_left]; rfl
  · rw [List.length_zip, hl2, Nat.min_self]; exact hkl
  · rw [merge_zip ks vs [] (by exact hn), List.nil_append]
    refine ⟨p, _, rfl, upd_same, fun o => ?_⟩
    have r2 := (r0.trans r1).write (o := .dK (ks.zip vs)) hp hF2
    have r3 := r2.write (o := .frz o (.dK (ks.zip vs))) hp hF2
    exact hq (.ref p) _ (upd F2 p (.frz o (.dK (ks.zip vs)))) _ (r3.freeze upd_same hp hF2) (.diz upd_same hl2.symm (i.up (upd_ex hF2))) hq2
/-! ### what is asked of it -/
theorem IsB.diz {K : PySem.W.Frag} {F H : Hp} {v : V} {ks : List Key} {ds : List D} (s : Ex F H) (h : IsB K g F H v (.diz ks ds)) : ∃ a o vs, v = .ref a ∧ H a = some (.frz o (.dK (ks.zip vs))) ∧ ks.length = vs.length ∧ IsAll K F vs ds := by
  rcases h with h | ⟨a, o, rfl, h1, _, h3⟩
  · cases h with
    | diz h1 h0 h2 => exact ⟨_, _, _, rfl, s _ _ h1, h0, h2⟩
  · cases h3
def sLenZ : Sem1T := fun a q _ => match a with | .diz ks _ => q (.int ks.length) | _ => False
theorem call_lenZ : CallR X (.builtin "len") (fun xs H Q => ∃ a o kvs, xs = [V.ref a] ∧ H a = some (.frz o (.dK kvs)) ∧ Q (.int kvs.length) H) := by
  intro pins s σ H xs us Q I r h
  obtain ⟨a, o, kvs, rfl, ha, q⟩ := h
  obtain ⟨u, rfl, ru⟩ := vals1 r
  cases ru
  exact d_len I (.inr ⟨o, ha⟩) fun t s' I' => ⟨.int kvs.length, H, I', ⟨t, rfl⟩, q⟩
theorem de_lenZ (hg : Gl X "len") (hm : X.mg "len" = none) (ha : DB X g E m a fa) (h1 : starEach [a] X.env = (false, eval a X.env) :: starEach [] X.env := by rfl) : DE X g E m (.Call (.Name "len" p) [a] [] pos) (f1 sLenZ fa) :=
  de_1 (r := fun v H Q => ∃ a o kvs, [v] = [V.ref a] ∧ H a = some (.frz o (.dK kvs)) ∧ Q (.int kvs.length) H) (pe_callB call_lenZ hg hm PySem.boot_len (pa_cons ha pa_nil h1) (he := h1)) fun g E H F v a q x Q r ia hs hq hx => by
  unfold sLenZ at hs
  split at hs
  · obtain ⟨c, o, vs, rfl, h1, hl, h2⟩ := ia.diz r.sub
    refine ⟨c, o, _, rfl, h1, ?_⟩
    rw [List.length_zip, ← hl, Nat.min_self]
    exact hq _ H F _ r (.int _) hs
  · exact hs.elim
/-- a key as data -/
def kD : Key → D
  | .inl i => .int i
  | .inr s => .str s
def keyOfD : D → Option Key
  | .int i => some (.inl i)
  | .str s => some (.inr s)
  | _ => none
theorem kD_is {K : PySem.W.Frag} {F : Hp} : ∀ k : Key, Is K F (kV k) (kD k)
  | .inl i => .int i
  | .inr s => .str s
theorem isB_key {K : PySem.W.Frag} {F H : Hp} {v : V} {d : D} {k : Key} (h : IsB K g F H v d) (hk : keyOfD d = some k) : v = kV k := by
  cases d with
  | int i => cases hk; exact h.int
  | str s => cases hk; exact h.str
  | _ => cases hk
theorem yl_keys {K : PySem.W.Frag} {F : Hp} {d : Addr} {o : Obj} {ks : List Key} {vs : List V} (h : F d = some (.frz o (.dK (ks.zip vs)))) (hl : ks.length = vs.length) : Yl K (Itk d o (ks.zip vs)) F (ks.map kD) where
  go := fun i H e hi => ⟨e _ _ h, by rw [List.length_zip, ← hl, Nat.min_self]; simpa using hi⟩
  yl := fun g i d' H F1 x H' r e hd hy => by
    obtain ⟨rfl, k, v, h1, rfl⟩ := hy
    rw [List.getElem?_map] at hd
    obtain ⟨k', hk', rfl⟩ := Option.map_eq_some_iff.mp hd
    have : ks[i]? = some k := by
      obtain ⟨h2, _⟩ := List.getElem?_zip_eq_some.mp h1
      exact h2
    rw [this] at hk'
    cases hk'
    exact ⟨F1, r, kD_is k⟩
  stop := fun i H e hi => ⟨e _ _ h, by rw [List.length_zip, ← hl, Nat.min_self]; simpa using hi⟩
/-- the keys of a dict -/
def fKz (f : FE) : FI := fun ρ q x => f ρ (fun d => match d with | .diz ks _ => q (ks.map kD) | _ => False) x
theorem di_keysZ {tg : Expr} (h : DE X g E m a fa) : DI X g E m tg a (fKz fa) := PIimp (pi_keys h) fun σ H R ⟨H0, F0, F, ρ, q, x, Rl, hf, hq, hx⟩ =>
  ⟨H0, F0, F, ρ, _, x, Rl, hf, fun v H' F' d r i hd => by
    split at hd
    · cases i with
      | diz h1 hl h2 => exact ⟨_, _, rfl, .inl ⟨_, (Rl.step r).fr.sub _ _ h1, hq _ H' F' _ r (yl_keys h1 hl) hd⟩⟩
    · exact hd.elim, hx⟩
def getZ : List Key → List D → Key → Option D
  | k' :: ks, d :: ds, k => if k' = k then some d else getZ ks ds k
  | _, _, _ => none
def hasZ (ks : List Key) (k : Key) : Bool := ks.any fun j => decide (j = k)
theorem getZ_is {K : PySem.W.Frag} {F : Hp} {k : Key} : ∀ {ks : List Key} {vs : List V} {ds : List D}, ks.length = vs.length → IsAll K F vs ds → (∀ d, getZ ks ds k = some d → ∃ v, valV (ks.zip vs) k = some v ∧ Is K F v d) ∧ (valV (ks.zip vs) k).isSome = hasZ ks k
  | [], _, _, _, _ => by
    constructor
    · intro d z
      unfold getZ at z
      cases z
    · rw [List.zip_nil_left]; rfl
  | k' :: ks, [], _, h, _ => by cases h
  | k' :: ks, v :: vs, [], _, h => by cases h
  | k' :: ks, v :: vs, d :: ds, hl, h => by
    cases h with
    | cons h1 h2 =>
    obtain ⟨i1, i2⟩ := getZ_is (k := k) (by simpa using hl) h2
    rw [List.zip_cons_cons]
    by_cases e : k' = k
    · subst e
      rw [show valV ((k', v) :: ks.zip vs) k' = some v by unfold valV; rw [List.find?_cons_of_pos (by simp)]; rfl]
      refine ⟨fun d' z => ?_, by unfold hasZ; rw [List.any_cons, decide_eq_true rfl]; rfl⟩
      have : getZ (k' :: ks) (d :: ds) k' = some d := by show (if k' = k' then some d else _) = _; rw [if_pos rfl]
      rw [this] at z
      cases z
      exact ⟨v, rfl, h1⟩
    · rw [show valV ((k', v) :: ks.zip vs) k = valV (ks.zip vs) k by unfold valV; rw [List.find?_cons_of_neg (by simpa using e)]]
      refine ⟨fun d' z => ?_, ?_⟩
      · have : getZ (k' :: ks) (d :: ds) k = getZ ks ds k := by show (if k' = k then some d else _) = _; rw [if_neg e]
        rw [this] at z
        exact i1 d' z
      · rw [i2]
        unfold hasZ
        rw [List.any_cons, decide_eq_false e, Bool.false_or]
/-- d[k] -/
def fGetZ (fo fk : FE) : FE := fun ρ q x => fo ρ (fun a => fk ρ (fun b => match a, keyOfD b with | .diz ks ds, some k => ∃ d, getZ ks ds k = some d ∧ q d | _, _ => False) x) x
theorem de_getZ (hu : X.A.units + 1 < cLine) (ha : DE X g E m a fa) (hb : DE X g E m b fb) (hs : NoSl b) : DE X g E m (.Subscript a b pos) (fGetZ fa fb) :=
  PEimp (pe_dget hu ha hb hs) fun σ H Q ⟨H0, F0, F, ρ, q, x, R, hf, hq, hx⟩ => ⟨H0, F0, F, ρ, _, x, R, hf, fun v H1 F1 d r1 i1 h1 => ⟨H0, F0, F1, ρ, _, x, R.step r1, h1, fun w H2 F2 c r2 i2 h2 => by
    split at h2
    · rename_i a' b' ks ds k hk
      obtain ⟨d', e1, q2⟩ := h2
      obtain ⟨c', o, vs, rfl, g1, hl, g2⟩ := IsB.diz (g := g) ((R.step r1).step r2).fr.sub (.inl (i1.up r2.f0))
      have ew := isB_key (g := g) (H := H2) (.inl i2) hk
      obtain ⟨u, e2, e3⟩ := (getZ_is (k := k) hl g2).1 d' e1
      exact ⟨c', u, rfl, .inl ⟨_, k, .inr ⟨o, g1⟩, ew, e2.symm⟩, hq u H2 F2 d' (r1.trans r2) e3 q2⟩
    · exact h2.elim, hx.step r1⟩, hx⟩
/-- k not in d -/
def fNotInZ (fk fo : FE) : FE := fun ρ q x => fk ρ (fun b => fo ρ (fun a => match a, keyOfD b with | .diz ks _, some k => q (.bl (!hasZ ks k)) | _, _ => False) x) x
theorem de_notInZ (hu : X.A.units + 1 < cLine) (hb : DE X g E m b fb) (ha : DE X g E m a fa) (h1 : behindInMarks .NotIn a = false := by first | exact nobehind _ (by decide) (by decide) | rfl) : DE X g E m (.Compare b [.NotIn] [a] pos) (fNotInZ fb fa) :=
  PEimp (pe_cmp (pc_dnotin hu hb ha) h1) fun σ H Q ⟨H0, F0, F, ρ, q, x, R, hf, hq, hx⟩ => ⟨H0, F0, F, ρ, _, x, R, hf, fun w H1 F1 c r1 i1 g1 => ⟨H0, F0, F1, ρ, _, x, R.step r1, g1, fun v H2 F2 d r2 i2 h2 => by
    split at h2
    · rename_i a' b' ks ds k hk
      obtain ⟨c', o, vs, rfl, g1, hl, g2⟩ := IsB.diz (g := g) ((R.step r1).step r2).fr.sub (.inl i2)
      have ew := isB_key (g := g) (H := H2) (.inl i1) hk
      have e2 := (getZ_is (k := k) hl g2).2
      refine ⟨c', _, rfl, .inl ⟨_, k, .inr ⟨o, g1⟩, ew, rfl⟩, ?_⟩
      rw [e2]
      exact hq _ H2 F2 _ (r1.trans r2) (.bl _) h2
    · exact h2.elim, hx.step r1⟩, hx⟩
theorem dt_notInZ (hu : X.A.units + 1 < cLine) (hb : DE X g E m b fb) (ha : DE X g E m a fa) (h1 : behindInMarks .NotIn a = false := by first | exact nobehind _ (by decide) (by decide) | rfl) : DT X g E m (.Compare b [.NotIn] [a] pos) (fTest (fNotInZ fb fa)) :=
  PTimp (pt_cmp (pc_dnotin hu hb ha) h1) fun σ H Q ⟨H0, F0, F, ρ, q, x, R, hf, hq, hx⟩ => ⟨H0, F0, F, ρ, _, x, R, hf, fun w H1 F1 c r1 i1 g1 => ⟨H0, F0, F1, ρ, _, x, R.step r1, g1, fun v H2 F2 d r2 i2 h2 => by
    split at h2
    · rename_i a' b' ks ds k hk
      obtain ⟨c', o, vs, rfl, g1, hl, g2⟩ := IsB.diz (g := g) ((R.step r1).step r2).fr.sub (.inl i2)
      have ew := isB_key (g := g) (H := H2) (.inl i1) hk
      have e2 := (getZ_is (k := k) hl g2).2
      refine ⟨c', _, rfl, .inl ⟨_, k, .inr ⟨o, g1⟩, ew, rfl⟩, ?_⟩
      rw [e2]
      exact ⟨_, rfl, hq _ H2 F2 (r1.trans r2) h2⟩
    · exact h2.elim, hx.step r1⟩, hx⟩
end
theorem isi_dict : ∀ t ∈ tyNames, kitB t "dict" = some (isTy "dict" t) := by decide +kernel
/-! ### isinstance with several built-in types -/
def sIsiT (Ts : List String) : Sem1T := fun a q _ => match a with | .ref _ => False | .err _ _ => False | a => q (.bl (Ts.any fun T => isTy T a.ty))
theorem kitAny_ty {K : PySem.W.Frag} {t : String} : ∀ Ts : List String, (∀ T ∈ Ts, kitB t T = some (isTy T t)) → PySem.W.kitAny K (.type t) (Ts.map Value.type) = some (Ts.any fun T => isTy T t)
  | [], _ => rfl
  | T :: Ts, h => by
    have h1 := kit_ty (K := K) (h T (List.mem_cons_self ..))
    have ih := kitAny_ty (K := K) Ts fun T' hT => h T' (List.mem_cons_of_mem _ hT)
    rw [List.map_cons, List.any_cons]
    show (match PySem.W.kitOne K (.type t) (.type T) with | some true => some true | some false => PySem.W.kitAny K (.type t) (Ts.map Value.type) | none => none) = _
    rw [h1]
    cases isTy T t with
    | true => rfl
    | false => exact ih
theorem cls_ty : ∀ Ts : List String, Paired ClsV (Ts.map V.ty) (Ts.map Value.type)
  | [] => .nil
  | T :: Ts => .cons (.ty T) (cls_ty Ts)
section
variable {X : Cx} {g : Gd} {E : XK} {m : List Nat} {fa : FE} {a : Expr} {p pos : Pos}
theorem de_isiT {es : List Expr} {kx : Nat} {tp : Pos} (Ts : List String) (hk : ∀ t ∈ ["NoneType", "bool", "int", "str", "tuple", "list", "dict"], ∀ T ∈ Ts, kitB t T = some (isTy T t)) (hg : Gl X "isinstance") (hm : X.mg "isinstance" = none) (ha : DB X g E m a fa) (hc : PA X es (fun σ H Q => Q (Ts.map V.ty) H))
    (hl : (Ts.map V.ty).length ≤ LN := by exact Nat.le_of_ble_eq_true rfl) (hb : bootBuiltins "isinstance" = some (.builtin "isinstance") := by decide +kernel) (h1 : starEach [a, .Tuple es kx tp] X.env = (false, eval a X.env) :: starEach [.Tuple es kx tp] X.env := by rfl) (h2 : starEach [.Tuple es kx tp] X.env = (false, eval (.Tuple es kx tp) X.env) :: starEach [] X.env := by rfl) (hpl : (backTo pos (starEach [.Tuple es kx tp] X.env)).any (·.1) = false := by rfl) :
    DE X g E m (.Call (.Name "isinstance" p) [a, .Tuple es kx tp] [] pos) (f1 (sIsiT Ts) fa) :=
  PEimp (pe_callB call_isiT hg hm hb (pa_cons ha (pa_cons (pe_tup hc) pa_nil h2) h1) (he := h1) (hpl := hpl)) fun σ H Q ⟨H0, F0, F, ρ, q, x, R, hf, hq, hx⟩ => ⟨H0, F0, F, ρ, _, x, R, hf, fun v H1 F1 d r1 i1 hs => by
    have key : (∀ b, d ≠ .ref b) → (∀ n t, d ≠ .err n t) → q (.bl (Ts.any fun T => isTy T d.ty)) → (Ts.map V.ty).length ≤ sizeLine ∧ ∀ l, H1 l = none → rIsiT X.K [v, .ref l] (upd H1 l (.tup (Ts.map V.ty))) Q := fun nr ne hs => ⟨LN_line hl, fun l nl => by
      have hm : d.ty ∈ ["NoneType", "bool", "int", "str", "tuple", "list", "dict"] := by
        cases d with
        | ref b => exact absurd rfl (nr b)
        | err n t => exact absurd rfl (ne n t)
        | _ => simp [D.ty]
      have r2 := r1.new (o := HO.tup (Ts.map V.ty)) nl
      have ex : Ex H1 (upd H1 l (.tup (Ts.map V.ty))) := upd_ex nl
      exact ⟨v, l, Ts.map V.ty, _, Ts.map Value.type, _, rfl, upd_same, cls_ty Ts, IsB.tyx (g := g) (F := F1) (r1.sub.trans ex) (i1.imp id fun ⟨b, o, z1, z2, z3, z4⟩ => ⟨b, o, z1, ex _ _ z2, z3, z4⟩) nr ne, kitAny_ty Ts (hk _ hm), hq _ _ _ _ (r1.trans r2) (.bl _) hs⟩⟩
    unfold sIsiT at hs
    split at hs
    · exact hs.elim
    · exact hs.elim
    · rename_i nr ne
      exact key (fun b z => nr b z) (fun n t z => ne n t z) hs, hx⟩
/-! ### repr of any single value -/
def sReprZ : Sem1T := fun a q x => match a with | .non => q (.str "None") | .str s => (reprText s).length ≤ sizeLine ∧ q (.str (reprText s)) | a => sReprI a q x
def rReprZ (K : PySem.W.Frag) : List V → Hp → VK → Prop := fun xs H Q => rReprI K xs H Q ∨ (xs = [.non] ∧ Q (.str "None") H) ∨ ∃ s, xs = [.str s] ∧ (reprText s).length ≤ sizeLine ∧ Q (.str (reprText s)) H
theorem call_reprZ (hG : X.A.guards = some []) (hu : X.A.units + 64 < cLine) : CallR X (.builtin "repr") (rReprZ X.K) := by
  intro pins s σ H xs us Q I r h
  rcases h with h | ⟨rfl, q⟩ | ⟨z, rfl, hl, q⟩
  · exact call_reprI hG hu pins s σ H xs us Q I r h
  · obtain ⟨u, rfl, ru⟩ := vals1 r
    cases ru
    exact PySem.P.repr_of_none ⟨.str _, H, I.tok _, ⟨_, rfl⟩, q⟩
  · obtain ⟨u, rfl, t, rfl⟩ := vals1 r
    exact PySem.P.repr_of_str ⟨.str _, H, I.tok _, ⟨_, rfl⟩, q⟩ hl
theorem de_reprZ (hG : X.A.guards = some []) (hu : X.A.units + 64 < cLine) (hg : Gl X "repr") (hm : X.mg "repr" = none) (ha : DB X g E m a fa) (hb : bootBuiltins "repr" = some (.builtin "repr") := by decide +kernel) (h1 : starEach [a] X.env = (false, eval a X.env) :: starEach [] X.env := by rfl) : DE X g E m (.Call (.Name "repr" p) [a] [] pos) (f1 sReprZ fa) :=
  de_1 (r := fun v H Q => rReprZ X.K [v] H Q) (pe_callB (call_reprZ hG hu) hg hm hb (pa_cons ha pa_nil h1) (he := h1)) fun g E H F v a q x Q r ia hs hq hx => by
  unfold sReprZ at hs
  split at hs
  · exact .inr (.inl ⟨by rw [ia.non], hq _ H F _ r (.str _) hs⟩)
  · exact .inr (.inr ⟨_, by rw [ia.str], hs.1, hq _ H F _ r (.str _) hs.2⟩)
  · refine .inl ?_
    unfold sReprI at hs
    split at hs
    · exact .inr ⟨_, by rw [ia.int], hs.1, hq _ H F _ r (.str _) hs.2⟩
    · refine .inl ?_
      unfold sReprS at hs
      split at hs
      · exact .inr ⟨_, by rw [ia.bl], hq _ H F _ r (.str _) hs⟩
      · obtain ⟨hs0, h1, h2, h3, h4, hs⟩ := hs
        have hz := LN_line (Nat.le_trans (D.shown_len _ h1 h2) h4)
        refine .inl ?_
        split at hs0
        · obtain ⟨p, vs, e, i1, i2⟩ := ia.tup
          exact ⟨p, vs, _, by rw [e], i2.up r.sub, h1, h2, h3, .inl ⟨r.sub.sqT i1.sqT, hz, hq _ H F _ r (.str _) hs⟩⟩
        · obtain ⟨p, vs, e, i1, i2⟩ := ia.lst r.sub
          exact ⟨p, vs, _, by rw [e], i2.up r.sub, h1, h2, h3, .inr ⟨.inl (.inl i1), hz, hq _ H F _ r (.str _) hs⟩⟩
        · exact hs0.elim
/-! ### enumerate of a name that holds a tuple or a list -/
def fEnV (i : Nat) : FI := fun ρ q _ => match ρ[i]? with | some (some (.lst xs)) => q (enumD xs) | some (some (.tup xs)) => q (enumD xs) | _ => False
theorem di_enumV {e : Expr} {i : Nat} {elts : List Expr} {kk : Nat} {tpos : Pos} (hg : Gl X "enumerate") (hm : X.mg "enumerate" = none) (h : PE X e (tVar i)) (hmi : m.contains i = false := by rfl) (hs : starEach [e] X.env = [(false, eval e X.env)] := by rfl) : DI X g E m (.Tuple elts kk tpos) (.Call (.Name "enumerate" p) [e] [] pos) (fEnV i) :=
  ⟨fun pins s σ H R I ⟨H0, F0, F, ρ, q, x, Rl, hf, hq, hx⟩ => by
    unfold fEnV at hf
    split at hf
    · rename_i xs e1
      exact (di_enumL hg hm (de_of h (hm := hmi)) hs).run pins s σ H R I ⟨H0, F0, F, ρ, q, x, Rl, by unfold fEnL fVar; rw [e1]; exact hf, hq, hx⟩
    · rename_i xs e1
      exact (di_enumT hg hm (de_of h (hm := hmi)) hs).run pins s σ H R I ⟨H0, F0, F, ρ, q, x, Rl, by unfold fEnT fVar; rw [e1]; exact hf, hq, hx⟩
    · exact hf.elim⟩
end
end DL

/-! DN1: numbers a + b root(d) over the rationals. -/
namespace DN
/-- a + b root(d) -/
@[ext] structure El (d : Int) where
  a : Rat
  b : Rat
namespace El
variable {d : Int}
instance : Add (El d) := ⟨fun x y => ⟨x.a + y.a, x.b + y.b⟩⟩
instance : Mul (El d) := ⟨fun x y => ⟨x.a * y.a + x.b * y.b * d, x.a * y.b + x.b * y.a⟩⟩
instance : Neg (El d) := ⟨fun x => ⟨-x.a, -x.b⟩⟩
instance : Sub (El d) := ⟨fun x y => ⟨x.a - y.a, x.b - y.b⟩⟩
instance : NatCast (El d) := ⟨fun n => ⟨n, 0⟩⟩
instance : IntCast (El d) := ⟨fun n => ⟨n, 0⟩⟩
instance (n : Nat) : OfNat (El d) n := ⟨⟨(n : Rat), 0⟩⟩
theorem add_def (x y : El d) : x + y = ⟨x.a + y.a, x.b + y.b⟩ := rfl
theorem mul_def (x y : El d) : x * y = ⟨x.a * y.a + x.b * y.b * d, x.a * y.b + x.b * y.a⟩ := rfl
theorem neg_def (x : El d) : -x = ⟨-x.a, -x.b⟩ := rfl
theorem sub_def (x y : El d) : x - y = ⟨x.a - y.a, x.b - y.b⟩ := rfl
def pow (x : El d) : Nat → El d
  | 0 => 1
  | n + 1 => pow x n * x
instance : HPow (El d) Nat (El d) := ⟨pow⟩
instance : SMul Nat (El d) := ⟨fun n x => (n : El d) * x⟩
instance : SMul Int (El d) := ⟨fun n x => (n : El d) * x⟩
theorem zero_def : (0 : El d) = ⟨0, 0⟩ := rfl
theorem one_def : (1 : El d) = ⟨1, 0⟩ := rfl
theorem intCast_def (n : Int) : ((n : Int) : El d) = ⟨(n : Rat), 0⟩ := rfl
theorem natCast_def (n : Nat) : ((n : Nat) : El d) = ⟨(n : Rat), 0⟩ := rfl
instance : Lean.Grind.CommRing (El d) where
  add_zero x := by ext <;> simp only [add_def, zero_def] <;> grind
  add_comm x y := by ext <;> simp only [add_def] <;> grind
  add_assoc x y z := by ext <;> simp only [add_def] <;> grind
  mul_assoc x y z := by ext <;> simp only [mul_def] <;> grind
  mul_one x := by ext <;> simp only [mul_def, one_def] <;> grind
  one_mul x := by ext <;> simp only [mul_def, one_def] <;> grind
  left_distrib x y z := by ext <;> simp only [mul_def, add_def] <;> grind
  right_distrib x y z := by ext <;> simp only [mul_def, add_def] <;> grind
  zero_mul x := by ext <;> simp only [mul_def, zero_def] <;> grind
  mul_zero x := by ext <;> simp only [mul_def, zero_def] <;> grind
  pow_zero x := rfl
  pow_succ x n := rfl
  ofNat_succ n := by
    show (⟨((n + 1 : Nat) : Rat), 0⟩ : El d) = ⟨(n : Rat), 0⟩ + 1
    rw [one_def, add_def]
    ext
    · show ((n + 1 : Nat) : Rat) = (n : Rat) + 1
      grind
    · show (0 : Rat) = 0 + 0
      grind
  ofNat_eq_natCast n := rfl
  nsmul_eq_natCast_mul n x := rfl
  neg_add_cancel x := by ext <;> simp only [neg_def, add_def, zero_def] <;> grind
  sub_eq_add_neg x y := by ext <;> simp only [neg_def, add_def, sub_def] <;> grind
  neg_zsmul i x := by
    show ((-i : Int) : El d) * x = -(((i : Int) : El d) * x)
    ext <;> simp only [intCast_def, mul_def, neg_def] <;> grind
  zsmul_natCast_eq_nsmul n x := by
    show (((n : Nat) : Int) : El d) * x = ((n : Nat) : El d) * x
    have e : ((((n : Nat) : Int) : Int) : Rat) = ((n : Nat) : Rat) := Rat.intCast_natCast n
    ext <;> simp only [intCast_def, natCast_def, mul_def, e]
  intCast_ofNat n := by
    show (⟨((OfNat.ofNat n : Int) : Rat), 0⟩ : El d) = ⟨(n : Rat), 0⟩
    ext
    · show ((OfNat.ofNat n : Int) : Rat) = (n : Rat)
      exact Rat.intCast_natCast n
    · rfl
  intCast_neg i := by
    show (⟨((-i : Int) : Rat), 0⟩ : El d) = -⟨(i : Rat), 0⟩
    rw [neg_def]
    ext
    · show ((-i : Int) : Rat) = -(i : Rat)
      grind
    · show (0 : Rat) = -0
      grind
  mul_comm x y := by ext <;> simp only [mul_def] <;> grind
end El
example {d : Int} (x y z : El d) : (x + y) * z * z = z * z * x + y * z * z := by grind
end DN

/-! DN2: a number's tuple in lowest terms: one and no other. -/
namespace DN
open DL
theorem rcast_inj {i j : Int} (h : (i : Rat) = (j : Rat)) : i = j := Rat.intCast_inj.mp h
theorem rcast_mul (i j : Int) : ((i * j : Int) : Rat) = (i : Rat) * (j : Rat) := Rat.intCast_mul i j
theorem rcast_ne {i : Int} (h : i ≠ 0) : (i : Rat) ≠ 0 := fun z => h (rcast_inj (by rw [z]; rfl))
/-- p, q, s: the number in lowest terms -/
structure Canon {d : Int} (e : El d) (p q s : Int) : Prop where
  pos : 0 < s
  low : gcdI (gcdI p q) s = 1
  hp : (p : Rat) = e.a * s
  hq : (q : Rat) = e.b * s
theorem gcdI_assoc_mul {p q s k : Int} (hk : 0 ≤ k) : gcdI (gcdI (p * k) (q * k)) (s * k) = gcdI (gcdI p q) s * k := by
  rw [gcdI_eq, gcdI_eq, gcdI_eq, gcdI_eq, Int.gcd_mul_right]
  have h : ((k.natAbs : Nat) : Int) = k := by omega
  rw [Int.natCast_mul, h, Int.gcd_mul_right, Int.natCast_mul, h]
theorem dvd_gcd3 {t p q s : Int} (h1 : t ∣ p) (h2 : t ∣ q) (h3 : t ∣ s) : t ∣ gcdI (gcdI p q) s := by
  rw [gcdI_eq]
  refine Int.dvd_coe_gcd ?_ h3
  rw [gcdI_eq]
  exact Int.dvd_coe_gcd h1 h2
theorem Canon.dvd {d : Int} {e : El d} {p q s p' q' s' : Int} (h : Canon e p q s) (h' : Canon e p' q' s') : s ∣ s' := by
  have e1 : p * s' = p' * s := rcast_inj (by rw [rcast_mul, rcast_mul, h.hp, h'.hp]; grind)
  have e2 : q * s' = q' * s := rcast_inj (by rw [rcast_mul, rcast_mul, h.hq, h'.hq]; grind)
  have k := dvd_gcd3 (t := s) (p := p * s') (q := q * s') (s := s * s') (by rw [e1]; exact Int.dvd_mul_left ..) (by rw [e2]; exact Int.dvd_mul_left ..) (Int.dvd_mul_right ..)
  rw [gcdI_assoc_mul (by have := h'.pos; omega), h.low, Int.one_mul] at k
  exact k
theorem Canon.uniq {d : Int} {e : El d} {p q s p' q' s' : Int} (h : Canon e p q s) (h' : Canon e p' q' s') : p = p' ∧ q = q' ∧ s = s' := by
  have hs : s = s' := by
    have h1 := h.dvd h'
    have h2 := h'.dvd h
    have := h.pos; have := h'.pos
    exact Int.dvd_antisymm (by omega) (by omega) h1 h2
  subst hs
  exact ⟨rcast_inj (h.hp.trans h'.hp.symm), rcast_inj (h.hq.trans h'.hq.symm), rfl⟩
theorem gcd3_mul (g p q s : Int) : gcdI (gcdI (g * p) (g * q)) (g * s) = (g.natAbs : Int) * gcdI (gcdI p q) s := by
  unfold gcdI
  rw [Int.natAbs_mul, Int.natAbs_mul, Int.natAbs_mul, Nat.gcd_mul_left, Int.natAbs_natCast, Int.natAbs_natCast, Nat.gcd_mul_left, Int.natCast_mul]
/-- brought to lowest terms -/
theorem Canon.reduce {d : Int} {e : El d} {P Q S g : Int} (hS : S ≠ 0) (h1 : (P : Rat) = e.a * S) (h2 : (Q : Rat) = e.b * S) (hg : g = if S > 0 then gcdI (gcdI P Q) S else -gcdI (gcdI P Q) S) :
    Canon e (P.fdiv g) (Q.fdiv g) (S.fdiv g) ∧ g ≠ 0 := by
  have gp := gcdI_pos (a := gcdI P Q) (b := S) hS
  have d3 : gcdI (gcdI P Q) S ∣ S := gcdI_dvd_r ..
  have d0 : gcdI (gcdI P Q) S ∣ gcdI P Q := gcdI_dvd_l ..
  have d1 : gcdI (gcdI P Q) S ∣ P := Int.dvd_trans d0 (gcdI_dvd_l ..)
  have d2 : gcdI (gcdI P Q) S ∣ Q := Int.dvd_trans d0 (gcdI_dvd_r ..)
  have g0 : g ≠ 0 := by rw [hg]; split <;> omega
  have gd : ∀ {z : Int}, gcdI (gcdI P Q) S ∣ z → g ∣ z := fun {z} hz => by
    rw [hg]; split
    · exact hz
    · exact Int.neg_dvd.mpr hz
  obtain ⟨p, rfl⟩ := gd d1
  obtain ⟨q, rfl⟩ := gd d2
  obtain ⟨s, rfl⟩ := gd d3
  rw [Int.mul_fdiv_cancel_left _ g0, Int.mul_fdiv_cancel_left _ g0, Int.mul_fdiv_cancel_left _ g0]
  have gr := rcast_ne g0
  refine ⟨⟨?_, ?_, ?_, ?_⟩, g0⟩
  · by_cases h : g * s > 0
    · rw [if_pos h] at hg
      have g1 : 0 < g := by omega
      rcases Int.lt_or_le 0 s with k | k
      · exact k
      · have := Int.mul_nonpos_of_nonneg_of_nonpos (show 0 ≤ g by omega) k
        omega
    · rw [if_neg h] at hg
      have g1 : 0 < -g := by omega
      rcases Int.lt_or_le 0 s with k | k
      · exact k
      · have k2 := Int.mul_nonpos_of_nonneg_of_nonpos (show 0 ≤ -g by omega) k
        rw [Int.neg_mul] at k2
        omega
  · have m := gcd3_mul g p q s
    have a : gcdI (gcdI (g * p) (g * q)) (g * s) = (g.natAbs : Int) := by
      clear m gd d0 d1 d2 d3
      generalize gcdI (gcdI (g * p) (g * q)) (g * s) = G at *
      split at hg <;> omega
    rw [m] at a
    have n0 : (g.natAbs : Int) ≠ 0 := by omega
    exact Int.eq_of_mul_eq_mul_left n0 (by rw [a, Int.mul_one])
  · rw [rcast_mul, rcast_mul] at h1; grind
  · rw [rcast_mul, rcast_mul] at h2; grind
theorem rat_num (r : Rat) : (r.num : Rat) = r * ((r.den : Int) : Rat) := by
  have h : (r.num : Rat) / ((r.den : Int) : Rat) = r := by
    rw [← Rat.divInt_eq_div]; exact Rat.num_divInt_den r
  have hd : ((r.den : Int) : Rat) ≠ 0 := rcast_ne (by have := r.den_nz; omega)
  grind
theorem canon_ex {d : Int} (e : El d) : ∃ t : Int × Int × Int, Canon e t.1 t.2.1 t.2.2 := by
  have hS : ((e.a.den : Int) * (e.b.den : Int)) ≠ 0 := by
    have h1 := e.a.den_nz
    have h2 := e.b.den_nz
    exact Int.mul_ne_zero (by omega) (by omega)
  have h1 : ((e.a.num * (e.b.den : Int) : Int) : Rat) = e.a * ((e.a.den : Int) * (e.b.den : Int) : Int) := by
    rw [rcast_mul, rcast_mul, rat_num e.a]; grind
  have h2 : ((e.b.num * (e.a.den : Int) : Int) : Rat) = e.b * ((e.a.den : Int) * (e.b.den : Int) : Int) := by
    rw [rcast_mul, rcast_mul, rat_num e.b]; grind
  exact ⟨(_, _, _), (Canon.reduce hS h1 h2 rfl).1⟩
noncomputable def cn {d : Int} (e : El d) : Int × Int × Int := Classical.choose (canon_ex e)
theorem cn_ok {d : Int} (e : El d) : Canon e (cn e).1 (cn e).2.1 (cn e).2.2 := Classical.choose_spec (canon_ex e)
/-- the tuple of a number -/
noncomputable def nd {d : Int} (e : El d) : D := .tup [.int (cn e).1, .int (cn e).2.1, .int (cn e).2.2, .int (if (cn e).2.1 = 0 then 1 else d)]
theorem nd_of {d : Int} {e : El d} {p q s : Int} (h : Canon e p q s) : nd e = .tup [.int p, .int q, .int s, .int (if q = 0 then 1 else d)] := by
  obtain ⟨h1, h2, h3⟩ := (cn_ok e).uniq h
  unfold nd
  rw [h1, h2, h3]
theorem Canon.el {d : Int} {e : El d} {p q s : Int} (h : Canon e p q s) : e = ⟨(p : Rat) / s, (q : Rat) / s⟩ := by
  have hs := rcast_ne (i := s) (by have := h.pos; omega)
  have h1 := h.hp
  have h2 := h.hq
  ext
  · show e.a = (p : Rat) / s
    grind
  · show e.b = (q : Rat) / s
    grind
theorem cn_inj {d : Int} {e e' : El d} (h : cn e = cn e') : e = e' := by
  have h1 := (cn_ok e).el
  have h2 := (cn_ok e').el
  rw [h1, h2, h]
theorem nd_inj {d : Int} {e e' : El d} (h : nd e = nd e') : e = e' := by
  unfold nd at h
  injection h with h
  injection h with h1 h
  injection h with h2 h
  injection h with h3 h
  injection h1 with h1
  injection h2 with h2
  injection h3 with h3
  exact cn_inj (Prod.ext h1 (Prod.ext h2 h3))
/-- an integer -/
theorem canon_int {d : Int} (k : Int) : Canon (⟨(k : Rat), 0⟩ : El d) k 0 1 := by
  refine ⟨by decide, ?_, ?_, ?_⟩
  · unfold gcdI; simp
  · show (k : Rat) = (k : Rat) * ((1 : Int) : Rat)
    grind
  · show ((0 : Int) : Rat) = 0 * ((1 : Int) : Rat)
    grind
theorem nd_int {d : Int} (k : Int) : nd (⟨(k : Rat), 0⟩ : El d) = .tup [.int k, .int 0, .int 1, .int 1] := nd_of (canon_int k)
/-! ### sums and products before they are brought to lowest terms -/
theorem sum_raw {d : Int} {x y : El d} {p q s p' q' s' : Int} (h : Canon x p q s) (h' : Canon y p' q' s') :
    ((p * s' + p' * s : Int) : Rat) = (x + y).a * ((s * s' : Int) : Rat) ∧ ((q * s' + q' * s : Int) : Rat) = (x + y).b * ((s * s' : Int) : Rat) ∧ s * s' ≠ 0 := by
  have h1 := h.hp; have h2 := h.hq; have h3 := h'.hp; have h4 := h'.hq
  refine ⟨?_, ?_, ?_⟩
  · rw [El.add_def, Rat.intCast_add, rcast_mul, rcast_mul, rcast_mul]; grind
  · rw [El.add_def, Rat.intCast_add, rcast_mul, rcast_mul, rcast_mul]; grind
  · exact Int.mul_ne_zero (by have := h.pos; omega) (by have := h'.pos; omega)
theorem mul_raw {d : Int} {x y : El d} {p q s p' q' s' : Int} (h : Canon x p q s) (h' : Canon y p' q' s') :
    ((p * p' + q * q' * d : Int) : Rat) = (x * y).a * ((s * s' : Int) : Rat) ∧ ((p * q' + q * p' : Int) : Rat) = (x * y).b * ((s * s' : Int) : Rat) ∧ s * s' ≠ 0 := by
  have h1 := h.hp; have h2 := h.hq; have h3 := h'.hp; have h4 := h'.hq
  refine ⟨?_, ?_, ?_⟩
  · rw [El.mul_def, Rat.intCast_add, rcast_mul, rcast_mul, rcast_mul, rcast_mul]; grind
  · rw [El.mul_def, Rat.intCast_add, rcast_mul, rcast_mul, rcast_mul]; grind
  · exact Int.mul_ne_zero (by have := h.pos; omega) (by have := h'.pos; omega)
end DN

/-! DN3: polynomials: lists of coefficients, the constant first, up to zeros at the end. -/
namespace DN
section
variable {R : Type} [Lean.Grind.CommRing R]
/-- the i-th coefficient -/
def co : List R → Nat → R
  | [], _ => 0
  | a :: _, 0 => a
  | _ :: l, i + 1 => co l i
def padd : List R → List R → List R
  | [], m => m
  | l, [] => l
  | a :: l, b :: m => (a + b) :: padd l m
def psc (c : R) (l : List R) : List R := l.map (c * ·)
def pmul : List R → List R → List R
  | [], _ => []
  | a :: l, m => padd (psc a m) (0 :: pmul l m)
def Peq (l m : List R) : Prop := ∀ i, co l i = co m i
theorem co_nil (i : Nat) : co ([] : List R) i = 0 := by cases i <;> rfl
theorem co_padd : ∀ (l m : List R) (i : Nat), co (padd l m) i = co l i + co m i
  | [], m, i => by
    rw [co_nil]
    show co m i = 0 + co m i
    grind
  | a :: l, [], i => by
    rw [co_nil]
    show co (a :: l) i = co (a :: l) i + 0
    grind
  | a :: l, b :: m, 0 => rfl
  | a :: l, b :: m, i + 1 => co_padd l m i
theorem co_psc (c : R) : ∀ (l : List R) (i : Nat), co (psc c l) i = c * co l i
  | [], i => by
    show co [] i = c * co [] i
    rw [co_nil]; grind
  | a :: l, 0 => rfl
  | a :: l, i + 1 => co_psc c l i
/-- shifted -/
def sh (f : Nat → R) : Nat → R
  | 0 => 0
  | i + 1 => f i
theorem co_sh (l : List R) : ∀ i, co (0 :: l) i = sh (co l) i
  | 0 => rfl
  | i + 1 => rfl
theorem co_pmul_cons (a : R) (l m : List R) (i : Nat) : co (pmul (a :: l) m) i = a * co m i + sh (co (pmul l m)) i := by
  show co (padd (psc a m) (0 :: pmul l m)) i = _
  rw [co_padd, co_psc, co_sh]
theorem sh_add (f g : Nat → R) (i : Nat) : sh (fun j => f j + g j) i = sh f i + sh g i := by
  cases i
  · show (0 : R) = 0 + 0
    grind
  · rfl
theorem sh_mul (c : R) (f : Nat → R) (i : Nat) : sh (fun j => c * f j) i = c * sh f i := by
  cases i
  · show (0 : R) = c * 0
    grind
  · rfl
theorem sh_congr {f g : Nat → R} (h : ∀ i, f i = g i) (i : Nat) : sh f i = sh g i := by rw [show f = g from funext h]
theorem co_pmul_nil : ∀ (l : List R) (i : Nat), co (pmul l []) i = 0
  | [], i => co_nil i
  | a :: l, i => by
    rw [co_pmul_cons, co_nil, sh_congr (co_pmul_nil l)]
    cases i
    · show a * 0 + 0 = (0 : R)
      grind
    · show a * 0 + 0 = (0 : R)
      grind
theorem co_pmul_right (b : R) (m : List R) : ∀ (l : List R) (i : Nat), co (pmul l (b :: m)) i = b * co l i + sh (co (pmul l m)) i
  | [], i => by
    show co [] i = b * co [] i + sh (co []) i
    rw [co_nil, sh_congr (g := fun _ => 0) co_nil]
    cases i <;> (show (0 : R) = b * 0 + 0; grind)
  | a :: l, 0 => by
    rw [co_pmul_cons]
    show a * b + 0 = b * a + 0
    grind
  | a :: l, i + 1 => by
    rw [co_pmul_cons]
    show a * co m i + co (pmul l (b :: m)) i = b * co l i + co (pmul (a :: l) m) i
    rw [co_pmul_right b m l i, co_pmul_cons]
    grind
theorem pmul_comm : ∀ (l m : List R) (i : Nat), co (pmul l m) i = co (pmul m l) i
  | [], m, i => by
    rw [co_pmul_nil]
    exact co_nil i
  | a :: l, m, i => by
    rw [co_pmul_cons, co_pmul_right, sh_congr (pmul_comm l m)]
theorem pmul_congr {m m' : List R} (h : Peq m m') : ∀ (l : List R) (i : Nat), co (pmul l m) i = co (pmul l m') i
  | [], i => rfl
  | a :: l, i => by rw [co_pmul_cons, co_pmul_cons, h i, sh_congr (pmul_congr h l)]
theorem pmul_congr2 {l l' m m' : List R} (h : Peq l l') (h' : Peq m m') (i : Nat) : co (pmul l m) i = co (pmul l' m') i := by
  rw [pmul_congr h' l i, pmul_comm, pmul_congr h m' i, pmul_comm]
theorem pmul_add (m n : List R) : ∀ (l : List R) (i : Nat), co (pmul l (padd m n)) i = co (pmul l m) i + co (pmul l n) i
  | [], i => by
    show co [] i = co [] i + co [] i
    rw [co_nil]; grind
  | a :: l, i => by
    rw [co_pmul_cons, co_pmul_cons, co_pmul_cons, co_padd, sh_congr (pmul_add m n l), sh_add]
    grind
theorem pmul_sc (c : R) (n : List R) : ∀ (m : List R) (i : Nat), co (pmul (psc c m) n) i = c * co (pmul m n) i
  | [], i => by
    show co [] i = c * co [] i
    rw [co_nil]; grind
  | a :: m, i => by
    show co (pmul ((c * a) :: psc c m) n) i = _
    rw [co_pmul_cons, co_pmul_cons, sh_congr (pmul_sc c n m), sh_mul]
    grind
theorem pmul_shl (m n : List R) (i : Nat) : co (pmul (0 :: m) n) i = sh (co (pmul m n)) i := by
  rw [co_pmul_cons]; grind
theorem padd_mul (l m n : List R) (i : Nat) : co (pmul (padd l m) n) i = co (pmul l n) i + co (pmul m n) i := by
  rw [pmul_comm, pmul_add, pmul_comm n l, pmul_comm n m]
theorem pmul_assoc (m n : List R) : ∀ (l : List R) (i : Nat), co (pmul (pmul l m) n) i = co (pmul l (pmul m n)) i
  | [], i => rfl
  | a :: l, i => by
    show co (pmul (padd (psc a m) (0 :: pmul l m)) n) i = _
    rw [padd_mul, pmul_sc, pmul_shl, co_pmul_cons, sh_congr (pmul_assoc m n l)]
/-! ### the ring of polynomials -/
def nc (n : Nat) : R := (Lean.Grind.Semiring.natCast (α := R)).natCast n
def ic (n : Int) : R := (Lean.Grind.Ring.intCast (α := R)).intCast n
theorem Peq.refl (l : List R) : Peq l l := fun _ => rfl
theorem Peq.symm {l m : List R} (h : Peq l m) : Peq m l := fun i => (h i).symm
theorem Peq.trans {l m n : List R} (h : Peq l m) (h' : Peq m n) : Peq l n := fun i => (h i).trans (h' i)
variable (R) in
def pset : Setoid (List R) := ⟨Peq, Peq.refl, Peq.symm, Peq.trans⟩
variable (R) in
def Po : Type := Quotient (pset R)
/-- the polynomial of a list -/
def po (l : List R) : Po R := Quotient.mk (pset R) l
theorem po_eq {l m : List R} : po l = po m ↔ Peq l m := ⟨fun h => Quotient.exact h, fun h => Quotient.sound h⟩
namespace Po
def add : Po R → Po R → Po R := Quotient.lift₂ (fun l m => po (padd l m)) fun l m l' m' h h' => po_eq.mpr fun i => by rw [co_padd, co_padd, h i, h' i]
def mul : Po R → Po R → Po R := Quotient.lift₂ (fun l m => po (pmul l m)) fun l m l' m' h h' => po_eq.mpr (pmul_congr2 h h')
def sc (c : R) : Po R → Po R := Quotient.lift (fun l => po (psc c l)) fun l m h => po_eq.mpr fun i => by rw [co_psc, co_psc, h i]
def C (c : R) : Po R := po [c]
instance : Add (Po R) := ⟨add⟩
instance : Mul (Po R) := ⟨mul⟩
instance : Neg (Po R) := ⟨sc (-1)⟩
instance : Sub (Po R) := ⟨fun x y => x + -y⟩
instance : NatCast (Po R) := ⟨fun n => C (nc n)⟩
instance : IntCast (Po R) := ⟨fun n => C (ic n)⟩
instance (n : Nat) : OfNat (Po R) n := ⟨C (OfNat.ofNat n)⟩
def pow (x : Po R) : Nat → Po R
  | 0 => 1
  | n + 1 => pow x n * x
instance : HPow (Po R) Nat (Po R) := ⟨pow⟩
instance : SMul Nat (Po R) := ⟨fun n x => (n : Po R) * x⟩
instance : SMul Int (Po R) := ⟨fun n x => (n : Po R) * x⟩
theorem po_add (l m : List R) : po l + po m = po (padd l m) := rfl
theorem po_mul (l m : List R) : po l * po m = po (pmul l m) := rfl
theorem po_neg (l : List R) : -po l = po (psc (-1) l) := rfl
theorem co_C (c : R) (l : List R) (i : Nat) : co (pmul [c] l) i = c * co l i := by
  rw [co_pmul_cons]
  have z : sh (co (pmul ([] : List R) l)) i = 0 := by cases i <;> first | rfl | exact co_nil _
  rw [z]; grind
theorem co_zero : ∀ i : Nat, co ([OfNat.ofNat 0] : List R) i = 0
  | 0 => rfl
  | n + 1 => co_nil n
theorem ind {p : Po R → Prop} (h : ∀ l, p (po l)) (x : Po R) : p x := Quotient.inductionOn x h
instance : Lean.Grind.CommRing (Po R) where
  add_zero x := ind (p := fun x => x + 0 = x) (fun l => po_eq.mpr fun i => by
    rw [co_padd]
    rw [co_zero]; grind) x
  add_comm x y := ind (p := fun x => x + y = y + x) (fun l => ind (p := fun y => po l + y = y + po l) (fun m => po_eq.mpr fun i => by rw [co_padd, co_padd]; grind) y) x
  add_assoc x y z := ind (p := fun x => x + y + z = x + (y + z)) (fun l => ind (p := fun y => po l + y + z = po l + (y + z)) (fun m => ind (p := fun z => po l + po m + z = po l + (po m + z)) (fun n => po_eq.mpr fun i => by rw [co_padd, co_padd, co_padd, co_padd]; grind) z) y) x
  mul_assoc x y z := ind (p := fun x => x * y * z = x * (y * z)) (fun l => ind (p := fun y => po l * y * z = po l * (y * z)) (fun m => ind (p := fun z => po l * po m * z = po l * (po m * z)) (fun n => po_eq.mpr (pmul_assoc m n l)) z) y) x
  mul_one x := ind (p := fun x => x * 1 = x) (fun l => po_eq.mpr fun i => by rw [pmul_comm, co_C]; grind) x
  one_mul x := ind (p := fun x => 1 * x = x) (fun l => po_eq.mpr fun i => by rw [co_C]; grind) x
  left_distrib x y z := ind (p := fun x => x * (y + z) = x * y + x * z) (fun l => ind (p := fun y => po l * (y + z) = po l * y + po l * z) (fun m => ind (p := fun z => po l * (po m + z) = po l * po m + po l * z) (fun n => po_eq.mpr fun i => by rw [pmul_add, co_padd]) z) y) x
  right_distrib x y z := ind (p := fun x => (x + y) * z = x * z + y * z) (fun l => ind (p := fun y => (po l + y) * z = po l * z + y * z) (fun m => ind (p := fun z => (po l + po m) * z = po l * z + po m * z) (fun n => po_eq.mpr fun i => by rw [padd_mul, co_padd]) z) y) x
  zero_mul x := ind (p := fun x => 0 * x = 0) (fun l => po_eq.mpr fun i => by
    rw [co_C]
    show (OfNat.ofNat 0 : R) * co l i = co [OfNat.ofNat 0] i
    rw [co_zero]; grind) x
  mul_zero x := ind (p := fun x => x * 0 = 0) (fun l => po_eq.mpr fun i => by
    rw [pmul_comm, co_C]
    show (OfNat.ofNat 0 : R) * co l i = co [OfNat.ofNat 0] i
    rw [co_zero]; grind) x
  mul_comm x y := ind (p := fun x => x * y = y * x) (fun l => ind (p := fun y => po l * y = y * po l) (fun m => po_eq.mpr (pmul_comm l m)) y) x
  pow_zero x := rfl
  pow_succ x n := rfl
  ofNat_succ n := po_eq.mpr fun i => by
    rw [co_padd]
    cases i with
    | zero => exact Lean.Grind.Semiring.ofNat_succ n
    | succ j =>
      show co [] j = co [] j + co [] j
      rw [co_nil]; grind
  ofNat_eq_natCast n := po_eq.mpr fun i => by
    cases i
    · show (OfNat.ofNat n : R) = nc n
      exact Lean.Grind.Semiring.ofNat_eq_natCast n
    · rfl
  nsmul_eq_natCast_mul n x := rfl
  neg_add_cancel x := ind (p := fun x => -x + x = 0) (fun l => po_eq.mpr fun i => by
    rw [co_padd, co_psc]
    show -1 * co l i + co l i = co [OfNat.ofNat 0] i
    rw [co_zero]; grind) x
  sub_eq_add_neg x y := rfl
  neg_zsmul i x := ind (p := fun x => ((-i : Int) : Po R) * x = -(((i : Int) : Po R) * x)) (fun l => po_eq.mpr fun j => by
    have : (ic (-i) : R) = - ic i := Lean.Grind.Ring.intCast_neg i
    rw [co_C, co_psc, co_C, this]; grind) x
  zsmul_natCast_eq_nsmul n x := ind (p := fun x => (((n : Nat) : Int) : Po R) * x = ((n : Nat) : Po R) * x) (fun l => po_eq.mpr fun j => by
    rw [co_C, co_C]
    have : (ic ((n : Nat) : Int) : R) = nc n := Lean.Grind.Ring.intCast_natCast n
    rw [this]) x
  intCast_ofNat n := po_eq.mpr fun j => by
    cases j
    · show ic (OfNat.ofNat n : Int) = (OfNat.ofNat n : R)
      exact Lean.Grind.Ring.intCast_ofNat n
    · rfl
  intCast_neg i := po_eq.mpr fun j => by
    rw [co_psc]
    cases j
    · show ic (-i) = -1 * (ic i : R)
      have : (ic (-i) : R) = - ic i := Lean.Grind.Ring.intCast_neg i
      rw [this]; grind
    · rename_i j
      show co [] j = -1 * co [] j
      rw [co_nil]; grind
end Po
end
example {R : Type} [Lean.Grind.CommRing R] (x y z : Po R) : (x + y) * z = z * x + y * z := by grind
end DN

/-! DN4: values of polynomials, one polynomial put into another. -/
namespace DN
section
variable {R : Type} [Lean.Grind.CommRing R]
theorem po_cons (a : R) (l : List R) : po (a :: l) = Po.C a + po [0, 1] * po l := po_eq.mpr fun i => by
  rw [co_padd]
  have h : co (pmul ([0, 1] : List R) l) i = sh (co l) i := by
    rw [co_pmul_cons, sh_congr (fun i => Po.co_C 1 l i)]
    cases i with
    | zero => show (0 : R) * co l 0 + 0 = 0; grind
    | succ j => show (0 : R) * co l (j + 1) + 1 * co l j = co l j; grind
  show co (a :: l) i = co [a] i + co (pmul ([0, 1] : List R) l) i
  rw [h]
  cases i with
  | zero => show a = a + 0; grind
  | succ j => show co l j = co [] j + co l j; rw [co_nil]; grind
theorem po_nil : po ([] : List R) = 0 := po_eq.mpr fun i => by
  show co [] i = co [OfNat.ofNat 0] i
  rw [co_nil, Po.co_zero]
/-- a map that respects sums, products, constants is told by what it makes of the unknown -/
structure Hom (S : Type) [Lean.Grind.CommRing S] (f : Po R → S) (c : R → S) : Prop where
  add : ∀ x y, f (x + y) = f x + f y
  mul : ∀ x y, f (x * y) = f x * f y
  con : ∀ a, f (Po.C a) = c a
/-- l put at x (constants by c) -/
def at_ {S : Type} [Lean.Grind.CommRing S] (c : R → S) (x : S) : List R → S
  | [] => 0
  | a :: l => c a + x * at_ c x l
/-- constants respect sums and products -/
structure RH (S : Type) [Lean.Grind.CommRing S] (c : R → S) : Prop where
  zero : c 0 = 0
  one : c 1 = 1
  add : ∀ a b, c (a + b) = c a + c b
  mul : ∀ a b, c (a * b) = c a * c b
section
variable {S : Type} [Lean.Grind.CommRing S] {c : R → S} (h : RH S c) (x : S)
include h
theorem at_padd : ∀ l m : List R, at_ c x (padd l m) = at_ c x l + at_ c x m
  | [], m => by show at_ c x m = 0 + at_ c x m; grind
  | a :: l, [] => by show at_ c x (a :: l) = at_ c x (a :: l) + 0; grind
  | a :: l, b :: m => by
    show c (a + b) + x * at_ c x (padd l m) = (c a + x * at_ c x l) + (c b + x * at_ c x m)
    rw [h.add, at_padd l m]; grind
theorem at_psc (k : R) : ∀ l : List R, at_ c x (psc k l) = c k * at_ c x l
  | [] => by show (0 : S) = c k * 0; grind
  | a :: l => by
    show c (k * a) + x * at_ c x (psc k l) = c k * (c a + x * at_ c x l)
    rw [h.mul, at_psc k l]; grind
theorem at_pmul (m : List R) : ∀ l : List R, at_ c x (pmul l m) = at_ c x l * at_ c x m
  | [] => by show (0 : S) = 0 * _; grind
  | a :: l => by
    show at_ c x (padd (psc a m) (0 :: pmul l m)) = (c a + x * at_ c x l) * at_ c x m
    rw [at_padd h x, at_psc h x]
    show c a * at_ c x m + (c 0 + x * at_ c x (pmul l m)) = _
    rw [at_pmul m l, h.zero]; grind
theorem at_zeros : ∀ l : List R, (∀ i, co l i = 0) → at_ c x l = 0
  | [], _ => rfl
  | a :: l, z => by
    show c a + x * at_ c x l = 0
    rw [show a = 0 from z 0, h.zero, at_zeros l fun i => z (i + 1)]; grind
theorem at_peq : ∀ l m : List R, Peq l m → at_ c x l = at_ c x m
  | [], m, e => (at_zeros h x m fun i => by rw [← e i, co_nil]).symm
  | a :: l, [], e => at_zeros h x (a :: l) fun i => by rw [e i, co_nil]
  | a :: l, b :: m, e => by
    show c a + x * at_ c x l = c b + x * at_ c x m
    rw [show a = b from e 0, at_peq l m fun i => e (i + 1)]
end
end
end DN

/-! DN5: lists without zeros at the end. -/
namespace DN
section
variable {R : Type} [Lean.Grind.CommRing R]
/-- no zero at the end -/
def Trim (l : List R) : Prop := l = [] ∨ co l (l.length - 1) ≠ 0
theorem co_over : ∀ (l : List R) (i : Nat), l.length ≤ i → co l i = 0
  | [], i, _ => co_nil i
  | a :: l, 0, h => by simp at h
  | a :: l, i + 1, h => co_over l i (by simpa using h)
theorem co_ext : ∀ l m : List R, l.length = m.length → (∀ i, co l i = co m i) → l = m
  | [], [], _, _ => rfl
  | [], b :: m, h, _ => by simp at h
  | a :: l, [], h, _ => by simp at h
  | a :: l, b :: m, h, e => by
    rw [show a = b from e 0, co_ext l m (by simpa using h) fun i => e (i + 1)]
theorem Trim.len {l m : List R} (h : Trim l) (e : Peq l m) : l.length ≤ m.length := by
  rcases h with rfl | h
  · exact Nat.zero_le _
  · rcases Nat.lt_or_ge m.length l.length with k | k
    · exact absurd ((e _).trans (co_over m _ (by omega))) h
    · exact k
/-- one list and no other -/
theorem Trim.uniq {l m : List R} (h : Trim l) (h' : Trim m) (e : Peq l m) : l = m :=
  co_ext l m (Nat.le_antisymm (h.len e) (h'.len e.symm)) e
theorem Trim.po {l m : List R} (h : Trim l) (h' : Trim m) (e : DN.po l = DN.po m) : l = m := h.uniq h' (po_eq.mp e)
variable [DecidableEq R]
/-- zeros at the end cut off -/
def cut : List R → List R
  | [] => []
  | a :: l => match cut l with
    | [] => if a = 0 then [] else [a]
    | b :: m => a :: b :: m
theorem co_cut : ∀ (l : List R) (i : Nat), co (cut l) i = co l i
  | [], _ => rfl
  | a :: l, i => by
    have ih := co_cut l
    show co (match cut l with | [] => if a = 0 then [] else [a] | b :: m => a :: b :: m) i = _
    cases e : cut l with
    | nil =>
      rw [e] at ih
      dsimp only
      split
      · rename_i h0
        rw [co_nil]
        cases i with
        | zero => exact h0.symm
        | succ j => show (0 : R) = co l j; rw [← ih j, co_nil]
      · cases i with
        | zero => rfl
        | succ j => show co [] j = co l j; exact ih j
    | cons b m =>
      rw [e] at ih
      dsimp only
      cases i with
      | zero => rfl
      | succ j => exact ih j
theorem cut_trim : ∀ l : List R, Trim (cut l)
  | [] => .inl rfl
  | a :: l => by
    have ih := cut_trim l
    show Trim (match cut l with | [] => if a = 0 then [] else [a] | b :: m => a :: b :: m)
    cases e : cut l with
    | nil =>
      dsimp only
      split
      · exact .inl rfl
      · rename_i h0
        exact .inr h0
    | cons b m =>
      rw [e] at ih
      rcases ih with ih | ih
      · cases ih
      · exact .inr ih
theorem po_cut (l : List R) : po (cut l) = po l := po_eq.mpr (co_cut l)
theorem cut_eq {l m : List R} (e : po l = po m) : cut l = cut m := (cut_trim l).po (cut_trim m) (by rw [po_cut, po_cut, e])
theorem cut_of {l : List R} (h : Trim l) : cut l = l := (cut_trim l).po h (po_cut l)
end
end DN

/-! DN6: sizes. -/
namespace DN
open DL
theorem divOk_b {a b : Int} (h0 : b ≠ 0) (h : b.natAbs < 2 ^ 9000) : DivOk a b :=
  ⟨h0, PyProof.noPylong_of_log2 ((Nat.log2_lt (by omega)).mpr h)⟩
/-- S times the number is integral, its parts together (the root's weighed by d) at most B -/
structure Sz {d : Int} (e : El d) (S B : Nat) : Prop where
  pos : 0 < S
  ex : ∃ P Q : Int, (P : Rat) = e.a * ((S : Int) : Rat) ∧ (Q : Rat) = e.b * ((S : Int) : Rat) ∧ P.natAbs + Q.natAbs * d.natAbs ≤ B
section
variable {d : Int} {x y : El d} {S T B C : Nat}
theorem Sz.mono (h : Sz x S B) (hb : B ≤ C) : Sz x S C := by
  obtain ⟨P, Q, h1, h2, h3⟩ := h.ex
  exact ⟨h.pos, P, Q, h1, h2, Nat.le_trans h3 hb⟩
theorem Sz.add (h : Sz x S B) (h' : Sz y S C) : Sz (x + y) S (B + C) := by
  obtain ⟨P, Q, h1, h2, h3⟩ := h.ex
  obtain ⟨P', Q', k1, k2, k3⟩ := h'.ex
  refine ⟨h.pos, P + P', Q + Q', ?_, ?_, ?_⟩
  · rw [El.add_def, Rat.intCast_add, h1, k1]; grind
  · rw [El.add_def, Rat.intCast_add, h2, k2]; grind
  · have a1 : (P + P').natAbs ≤ P.natAbs + P'.natAbs := Int.natAbs_add_le ..
    have a2 : (Q + Q').natAbs ≤ Q.natAbs + Q'.natAbs := Int.natAbs_add_le ..
    have a3 := Nat.mul_le_mul_right d.natAbs a2
    rw [Nat.add_mul] at a3
    omega
theorem Sz.mul (h : Sz x S B) (h' : Sz y T C) : Sz (x * y) (S * T) (B * C) := by
  obtain ⟨P, Q, h1, h2, h3⟩ := h.ex
  obtain ⟨P', Q', k1, k2, k3⟩ := h'.ex
  refine ⟨Nat.mul_pos h.pos h'.pos, P * P' + Q * Q' * d, P * Q' + Q * P', ?_, ?_, ?_⟩
  · rw [El.mul_def, Rat.intCast_add, rcast_mul, rcast_mul, rcast_mul, h1, h2, k1, k2, Int.natCast_mul, rcast_mul]; grind
  · rw [El.mul_def, Rat.intCast_add, rcast_mul, rcast_mul, h1, h2, k1, k2, Int.natCast_mul, rcast_mul]; grind
  · have a1 : (P * P' + Q * Q' * d).natAbs ≤ P.natAbs * P'.natAbs + Q.natAbs * Q'.natAbs * d.natAbs := by
      refine Nat.le_trans (Int.natAbs_add_le ..) ?_
      rw [Int.natAbs_mul, Int.natAbs_mul, Int.natAbs_mul]; exact Nat.le_refl _
    have a2 : (P * Q' + Q * P').natAbs ≤ P.natAbs * Q'.natAbs + Q.natAbs * P'.natAbs := by
      refine Nat.le_trans (Int.natAbs_add_le ..) ?_
      rw [Int.natAbs_mul, Int.natAbs_mul]; exact Nat.le_refl _
    have a3 := Nat.mul_le_mul_right d.natAbs a2
    have a4 := Nat.mul_le_mul h3 k3
    refine Nat.le_trans (Nat.add_le_add a1 a3) (Nat.le_trans ?_ a4)
    by_cases hd : d.natAbs = 0
    · rw [hd]; simp
    · have hd1 : 1 ≤ d.natAbs := by omega
      have b1 : Q.natAbs * Q'.natAbs * d.natAbs ≤ Q.natAbs * d.natAbs * (Q'.natAbs * d.natAbs) := by
        have : Q.natAbs * d.natAbs * (Q'.natAbs * d.natAbs) = Q.natAbs * Q'.natAbs * d.natAbs * d.natAbs := by grind
        rw [this]
        exact Nat.le_mul_of_pos_right _ hd1
      have b2 : (P.natAbs + Q.natAbs * d.natAbs) * (P'.natAbs + Q'.natAbs * d.natAbs) = P.natAbs * P'.natAbs + Q.natAbs * d.natAbs * (Q'.natAbs * d.natAbs) + (P.natAbs * Q'.natAbs + Q.natAbs * P'.natAbs) * d.natAbs := by grind
      omega
/-- so are the parts of its tuple -/
theorem Sz.canon (h : Sz x S B) (hd : d ≠ 0) {p q s : Int} (c : Canon x p q s) : s.natAbs ≤ S ∧ p.natAbs ≤ B ∧ q.natAbs ≤ B := by
  obtain ⟨P, Q, h1, h2, h3⟩ := h.ex
  have hS : ((S : Nat) : Int) ≠ 0 := by have := h.pos; omega
  have e1 : p * (S : Int) = P * s := rcast_inj (by rw [rcast_mul, rcast_mul, c.hp, h1]; grind)
  have e2 : q * (S : Int) = Q * s := rcast_inj (by rw [rcast_mul, rcast_mul, c.hq, h2]; grind)
  have k := dvd_gcd3 (t := s) (p := p * S) (q := q * S) (s := s * S) (by rw [e1]; exact Int.dvd_mul_left ..) (by rw [e2]; exact Int.dvd_mul_left ..) (Int.dvd_mul_right ..)
  rw [gcdI_assoc_mul (by omega), c.low, Int.one_mul] at k
  obtain ⟨m, hm⟩ := k
  have s0 := c.pos
  have p1 : P = p * m := Int.eq_of_mul_eq_mul_right (show s ≠ 0 by omega) (by rw [← e1, hm]; grind)
  have q1 : Q = q * m := Int.eq_of_mul_eq_mul_right (show s ≠ 0 by omega) (by rw [← e2, hm]; grind)
  have m0 : 1 ≤ m.natAbs := by
    rcases Nat.eq_zero_or_pos m.natAbs with z | z
    · have : m = 0 := by omega
      rw [this, Int.mul_zero] at hm
      exact absurd hm hS
    · exact z
  have d1 : 1 ≤ d.natAbs := by omega
  have c1 : p.natAbs ≤ P.natAbs := by rw [p1, Int.natAbs_mul]; exact Nat.le_mul_of_pos_right _ m0
  have c2 : q.natAbs ≤ Q.natAbs := by rw [q1, Int.natAbs_mul]; exact Nat.le_mul_of_pos_right _ m0
  have c3 : Q.natAbs ≤ Q.natAbs * d.natAbs := Nat.le_mul_of_pos_right _ d1
  have c4 : s.natAbs ≤ S := by
    have : S = s.natAbs * m.natAbs := by
      have := congrArg Int.natAbs hm
      rw [Int.natAbs_mul] at this
      simpa using this
    rw [this]
    exact Nat.le_mul_of_pos_right _ m0
  exact ⟨c4, by omega, by omega⟩
end
end DN

/-! DN7: the unknown, putting one polynomial into another, a list changed at one place, padded sums. -/
namespace DN
section
variable {R : Type} [Lean.Grind.CommRing R]
/-- the unknown -/
def PX : Po R := po [0, 1]
theorem C_add (a b : R) : Po.C (a + b) = Po.C a + Po.C b := rfl
theorem C_zero : Po.C (0 : R) = 0 := rfl
theorem C_one : Po.C (1 : R) = 1 := rfl
theorem C_mul (a b : R) : Po.C (a * b) = Po.C a * Po.C b := po_eq.mpr fun i => by
  rw [Po.co_C]
  cases i with
  | zero => rfl
  | succ j => show co [] j = a * co [] j; rw [co_nil]; grind
variable (R) in
theorem RHC : RH (Po R) (Po.C (R := R)) := ⟨C_zero, C_one, C_add, C_mul⟩
variable (R) in
theorem RHid : RH R (id : R → R) := ⟨rfl, rfl, fun _ _ => rfl, fun _ _ => rfl⟩
theorem po_at : ∀ l : List R, po l = at_ Po.C PX l
  | [] => po_nil
  | a :: l => by rw [po_cons, po_at l]; rfl
/-- y put for the unknown -/
def Sub (y : Po R) : Po R → Po R := Quotient.lift (at_ Po.C y) fun l m h => at_peq (RHC R) y l m h
theorem Sub_po (y : Po R) (l : List R) : Sub y (po l) = at_ Po.C y l := rfl
theorem Sub_add (y a b : Po R) : Sub y (a + b) = Sub y a + Sub y b :=
  Po.ind (p := fun a => Sub y (a + b) = Sub y a + Sub y b) (fun l => Po.ind (p := fun b => Sub y (po l + b) = Sub y (po l) + Sub y b) (fun m => at_padd (RHC R) y l m) b) a
theorem Sub_mul (y a b : Po R) : Sub y (a * b) = Sub y a * Sub y b :=
  Po.ind (p := fun a => Sub y (a * b) = Sub y a * Sub y b) (fun l => Po.ind (p := fun b => Sub y (po l * b) = Sub y (po l) * Sub y b) (fun m => at_pmul (RHC R) y m l) b) a
theorem Sub_C (y : Po R) (a : R) : Sub y (Po.C a) = Po.C a := by
  show Po.C a + y * 0 = Po.C a
  grind
theorem Sub_zero (y : Po R) : Sub y 0 = 0 := Sub_C y 0
theorem Sub_X (y : Po R) : Sub y PX = y := by
  show Po.C 0 + y * (Po.C 1 + y * 0) = y
  rw [C_zero, C_one]; grind
theorem Sub_at (y z : Po R) : ∀ l : List R, Sub y (at_ Po.C z l) = at_ Po.C (Sub y z) l
  | [] => Sub_zero y
  | a :: l => by
    show Sub y (Po.C a + z * at_ Po.C z l) = Po.C a + Sub y z * at_ Po.C (Sub y z) l
    rw [Sub_add, Sub_mul, Sub_C, Sub_at y z l]
/-- the value of a polynomial -/
abbrev ev (x : R) (l : List R) : R := at_ id x l
def Ev (x : R) : Po R → R := Quotient.lift (at_ id x) fun l m h => at_peq (RHid R) x l m h
theorem Ev_po (x : R) (l : List R) : Ev x (po l) = ev x l := rfl
theorem Ev_add (y : R) (a b : Po R) : Ev y (a + b) = Ev y a + Ev y b :=
  Po.ind (p := fun a => Ev y (a + b) = Ev y a + Ev y b) (fun l => Po.ind (p := fun b => Ev y (po l + b) = Ev y (po l) + Ev y b) (fun m => at_padd (RHid R) y l m) b) a
theorem Ev_mul (y : R) (a b : Po R) : Ev y (a * b) = Ev y a * Ev y b :=
  Po.ind (p := fun a => Ev y (a * b) = Ev y a * Ev y b) (fun l => Po.ind (p := fun b => Ev y (po l * b) = Ev y (po l) * Ev y b) (fun m => at_pmul (RHid R) y m l) b) a
theorem Ev_C (y a : R) : Ev y (Po.C a) = a := by
  show a + y * 0 = a
  grind
theorem Ev_zero (y : R) : Ev y 0 = 0 := Ev_C y 0
theorem Ev_X (y : R) : Ev y PX = y := by
  show (0 : R) + y * (1 + y * 0) = y
  grind
theorem Ev_at (y : R) (z : Po R) : ∀ l : List R, Ev y (at_ Po.C z l) = ev (Ev y z) l
  | [] => Ev_zero y
  | a :: l => by
    show Ev y (Po.C a + z * at_ Po.C z l) = a + Ev y z * ev (Ev y z) l
    rw [Ev_add, Ev_mul, Ev_C, Ev_at y z l]
/-! ### one place -/
theorem po_tl (l : List R) : po (0 :: l) = PX * po l := by
  rw [po_cons, C_zero]
  show 0 + PX * po l = PX * po l
  grind
theorem po_set (c : R) : ∀ (f : List R) (k : Nat) (a : R), f[k]? = some a → po (f.set k (a + c)) = po f + Po.C c * PX ^ k
  | [], k, a, h => by cases h
  | b :: f, 0, a, h => by
    rw [List.getElem?_cons_zero] at h
    cases h
    rw [List.set_cons_zero, po_cons, po_cons b f, C_add]
    have : (PX : Po R) ^ 0 = 1 := rfl
    rw [this]; grind
  | b :: f, k + 1, a, h => by
    rw [List.getElem?_cons_succ] at h
    rw [List.set_cons_succ, po_cons, po_cons b f, po_set c f k a h]
    have : (PX : Po R) ^ (k + 1) = PX ^ k * PX := rfl
    rw [this, show (po [0, 1] : Po R) = PX from rfl]; grind
theorem po_snoc (a : R) : ∀ l : List R, po (l ++ [a]) = po l + Po.C a * PX ^ l.length
  | [] => by
    have : (PX : Po R) ^ 0 = 1 := rfl
    show Po.C a = po [] + Po.C a * PX ^ 0
    rw [po_nil, this]; grind
  | b :: l => by
    rw [List.cons_append, po_cons, po_cons b l, po_snoc a l, List.length_cons]
    have : (PX : Po R) ^ (l.length + 1) = PX ^ l.length * PX := rfl
    rw [this, show (po [0, 1] : Po R) = PX from rfl]; grind
theorem po_zeros : ∀ n : Nat, po (List.replicate n (0 : R)) = 0
  | 0 => po_nil
  | n + 1 => by rw [List.replicate_succ, po_tl, po_zeros n]; grind
/-! ### padded sums -/
theorem zw_zero : ∀ m : List R, List.zipWith (· + ·) (List.replicate m.length 0) m = m
  | [] => rfl
  | b :: m => by
    rw [List.length_cons, List.replicate_succ, List.zipWith_cons_cons, zw_zero m, show (0 : R) + b = b by grind]
theorem zw_zero' : ∀ m : List R, List.zipWith (· + ·) m (List.replicate m.length 0) = m
  | [] => rfl
  | b :: m => by
    rw [List.length_cons, List.replicate_succ, List.zipWith_cons_cons, zw_zero' m, show b + 0 = b by grind]
theorem pad_zip : ∀ (l m : List R) (n : Nat), n = max l.length m.length → List.zipWith (· + ·) (l ++ List.replicate (n - l.length) 0) (m ++ List.replicate (n - m.length) 0) = padd l m
  | [], m, n, h => by
    have : n = m.length := by simp at h; omega
    subst this
    rw [List.nil_append, List.length_nil, Nat.sub_zero, Nat.sub_self, List.replicate_zero, List.append_nil, zw_zero]; cases m <;> rfl
  | a :: l, [], n, h => by
    have : n = (a :: l).length := by simp at h; simpa using h
    subst this
    rw [List.nil_append, List.length_nil, Nat.sub_zero, Nat.sub_self, List.replicate_zero, List.append_nil, zw_zero']; rfl
  | a :: l, b :: m, n, h => by
    rw [List.length_cons, List.length_cons] at h
    cases n with
    | zero => omega
    | succ n =>
      rw [List.length_cons, List.length_cons, List.cons_append, List.cons_append, List.zipWith_cons_cons, Nat.add_sub_add_right, Nat.add_sub_add_right, pad_zip l m n (by omega)]; rfl
theorem padd_len : ∀ l m : List R, (padd l m).length = max l.length m.length
  | [], m => by simp [padd]
  | a :: l, [] => by simp [padd]
  | a :: l, b :: m => by simp only [padd, List.length_cons, padd_len l m]; omega
theorem psc_len (c : R) (l : List R) : (psc c l).length = l.length := List.length_map ..
theorem pmul_len : ∀ l m : List R, (pmul l m).length ≤ l.length + m.length
  | [], m => Nat.zero_le _
  | a :: l, m => by
    show (padd (psc a m) (0 :: pmul l m)).length ≤ _
    have := pmul_len l m
    rw [padd_len, psc_len, List.length_cons, List.length_cons]; omega
variable [DecidableEq R]
theorem cut_len : ∀ l : List R, (cut l).length ≤ l.length
  | [] => Nat.le_refl _
  | a :: l => by
    have ih := cut_len l
    show (match cut l with | [] => if a = 0 then [] else [a] | b :: m => a :: b :: m).length ≤ _
    cases e : cut l with
    | nil => dsimp only; split <;> simp
    | cons b m => rw [e] at ih; dsimp only; simp only [List.length_cons] at ih ⊢; omega
theorem cut_mem : ∀ (l : List R) (a : R), a ∈ cut l → a ∈ l
  | [], a, h => h
  | b :: l, a, h => by
    have ih := cut_mem l
    have h' : a ∈ (match cut l with | [] => if b = 0 then [] else [b] | c :: m => b :: c :: m) := h
    cases e : cut l with
    | nil =>
      rw [e] at h'
      dsimp only at h'
      split at h'
      · cases h'
      · rw [List.mem_singleton] at h'; rw [h']; exact List.mem_cons_self ..
    | cons c m =>
      rw [e] at h' ih
      dsimp only at h'
      rcases List.mem_cons.mp h' with h1 | h1
      · rw [h1]; exact List.mem_cons_self ..
      · exact List.mem_cons_of_mem _ (ih a h1)
/-- up to zeros at the end, the product has this many coefficients -/
theorem cut_le {l : List R} {n : Nat} (h : ∀ i, n ≤ i → co l i = 0) : (cut l).length ≤ n := by
  rcases cut_trim l with e | e
  · rw [e]; exact Nat.zero_le _
  · rcases Nat.lt_or_ge n (cut l).length with k | k
    · exact absurd ((co_cut l _).trans (h _ (by omega))) e
    · exact k
theorem co_pmul_over : ∀ (l m : List R) (i : Nat), l.length + m.length - 1 ≤ i → co (pmul l m) i = 0
  | [], m, i, _ => co_nil i
  | [a], m, i, h => by
    rw [Po.co_C, co_over m i (by simp at h; omega)]; grind
  | a :: b :: l, m, i, h => by
    rw [co_pmul_cons]
    simp only [List.length_cons] at h
    cases i with
    | zero => omega
    | succ j =>
      show a * co m (j + 1) + co (pmul (b :: l) m) j = 0
      rw [co_pmul_over (b :: l) m j (by simp only [List.length_cons]; omega), co_over m (j + 1) (by omega)]; grind
theorem cut_pmul_len (l m : List R) : (cut (pmul l m)).length ≤ l.length + m.length - 1 := cut_le (co_pmul_over l m)
end
end DN

/-! DN8: sizes of polynomials: a common denominator S, tops at most B. -/
namespace DN
open DL
instance elDec (d : Int) : DecidableEq (El d) := fun a b => decidable_of_iff (a.a = b.a ∧ a.b = b.b) ⟨fun ⟨h1, h2⟩ => by cases a; cases b; cases h1; cases h2; rfl, fun h => by cases h; exact ⟨rfl, rfl⟩⟩
section
variable {d : Int} {x y : El d} {S T B C : Nat}
theorem Sz.zero (h : 0 < S) : Sz (0 : El d) S B := ⟨h, 0, 0, by show ((0 : Int) : Rat) = 0 * _; grind, by show ((0 : Int) : Rat) = 0 * _; grind, by simp⟩
theorem Sz.int (k : Int) (h : k.natAbs ≤ B) : Sz (⟨(k : Rat), 0⟩ : El d) 1 B := ⟨by decide, k, 0, by show (k : Rat) = (k : Rat) * ((1 : Int) : Rat); grind, by show ((0 : Int) : Rat) = 0 * _; grind, by simpa using h⟩
theorem Sz.scale (h : Sz x S B) (hT : 0 < T) : Sz x (S * T) (B * T) := by
  obtain ⟨P, Q, h1, h2, h3⟩ := h.ex
  refine ⟨Nat.mul_pos h.pos hT, P * T, Q * T, ?_, ?_, ?_⟩
  · rw [Int.natCast_mul, rcast_mul, rcast_mul, h1]; grind
  · rw [Int.natCast_mul, rcast_mul, rcast_mul, h2]; grind
  · rw [Int.natAbs_mul, Int.natAbs_mul, Int.natAbs_natCast]
    have := Nat.mul_le_mul_right T h3
    have e : (P.natAbs + Q.natAbs * d.natAbs) * T = P.natAbs * T + Q.natAbs * T * d.natAbs := by grind
    omega
theorem Sz.neg (h : Sz x S B) : Sz (-x) S B := by
  obtain ⟨P, Q, h1, h2, h3⟩ := h.ex
  refine ⟨h.pos, -P, -Q, ?_, ?_, by simpa using h3⟩
  · rw [El.neg_def, Rat.intCast_neg, h1]; grind
  · rw [El.neg_def, Rat.intCast_neg, h2]; grind
structure Ps (l : List (El d)) (S B : Nat) : Prop where
  pos : 0 < S
  all : ∀ e ∈ l, Sz e S B
variable {l m : List (El d)}
theorem Ps.nil (h : 0 < S) : Ps ([] : List (El d)) S B := ⟨h, fun _ h => by cases h⟩
theorem Ps.cons (h : Sz x S B) (hl : Ps l S B) : Ps (x :: l) S B := ⟨h.pos, fun e he => by
  rcases List.mem_cons.mp he with rfl | he
  · exact h
  · exact hl.all e he⟩
theorem Ps.head (h : Ps (x :: l) S B) : Sz x S B := h.all _ (List.mem_cons_self ..)
theorem Ps.tail (h : Ps (x :: l) S B) : Ps l S B := ⟨h.pos, fun e he => h.all e (List.mem_cons_of_mem _ he)⟩
theorem Ps.mono (h : Ps l S B) (hb : B ≤ C) : Ps l S C := ⟨h.pos, fun e he => (h.all e he).mono hb⟩
theorem Ps.scale (h : Ps l S B) (hT : 0 < T) : Ps l (S * T) (B * T) := ⟨Nat.mul_pos h.pos hT, fun e he => (h.all e he).scale hT⟩
theorem Ps.padd : ∀ {l m : List (El d)}, Ps l S B → Ps m S C → Ps (padd l m) S (B + C)
  | [], m, h, h' => h'.mono (by omega)
  | a :: l, [], h, h' => h.mono (by omega)
  | a :: l, b :: m, h, h' => .cons (h.head.add h'.head) (Ps.padd h.tail h'.tail)
theorem Ps.psc (hx : Sz x S B) (h : Ps l T C) : Ps (psc x l) (S * T) (B * C) := ⟨Nat.mul_pos hx.pos h.pos, fun e he => by
  obtain ⟨a, ha, rfl⟩ := List.mem_map.mp he
  exact hx.mul (h.all a ha)⟩
theorem Ps.pmul (hm : Ps m T C) : ∀ {l : List (El d)}, Ps l S B → Ps (pmul l m) (S * T) (l.length * (B * C))
  | [], h => .nil (Nat.mul_pos h.pos hm.pos)
  | a :: l, h => by
    have h1 := Ps.psc h.head hm
    have h2 := Ps.pmul hm h.tail
    have h3 := h1.padd (Ps.cons (Sz.zero h1.pos) h2)
    refine h3.mono ?_
    rw [List.length_cons, Nat.add_mul]; omega
theorem Ps.cut (h : Ps l S B) : Ps (cut l) S B := ⟨h.pos, fun e he => h.all e (cut_mem l e he)⟩
/-- the value, by Horner -/
theorem Ps.ev (hx : Sz x T C) (hT : T ≤ C) : ∀ {l : List (El d)} (n : Nat), l.length ≤ n → Ps l S B → Sz (ev x l) (S * T ^ n) (n * (B * C ^ n))
  | [], n, _, h => Sz.zero (Nat.mul_pos h.pos (Nat.pow_pos hx.pos))
  | a :: l, n, hn, h => by
    cases n with
    | zero => simp at hn
    | succ n =>
      have h1 := Ps.ev hx hT n (by simpa using hn) h.tail
      have h2 := hx.mul h1
      have h3 := h.head.scale (T := T ^ (n + 1)) (Nat.pow_pos hx.pos)
      have e : T * (S * T ^ n) = S * T ^ (n + 1) := by rw [Nat.pow_succ]; grind
      rw [e] at h2
      have h4 := h3.add h2
      refine h4.mono ?_
      have e1 : B * T ^ (n + 1) ≤ B * C ^ (n + 1) := Nat.mul_le_mul_left _ (Nat.pow_le_pow_left hT _)
      have e2 : C * (n * (B * C ^ n)) = n * (B * C ^ (n + 1)) := by rw [Nat.pow_succ]; grind
      have e3 : (n + 1) * (B * C ^ (n + 1)) = n * (B * C ^ (n + 1)) + B * C ^ (n + 1) := by rw [Nat.add_mul, Nat.one_mul]
      omega
end
/-- a polynomial as it is handed on -/
structure Pg {d : Int} (l : List (El d)) (n S B : Nat) : Prop where
  trim : Trim l
  len : l.length ≤ n
  sz : Ps l S B
section
variable {d : Int} {S T B C n k : Nat} {l m : List (El d)}
theorem Pg.cut (h : Ps l S B) (hl : (cut l).length ≤ n) : Pg (cut l) n S B := ⟨cut_trim l, hl, h.cut⟩
theorem Pg.nil (h : 0 < S) : Pg ([] : List (El d)) n S B := ⟨.inl rfl, Nat.zero_le _, .nil h⟩
theorem Pg.mono (h : Pg l n S B) (hn : n ≤ k) (hb : B ≤ C) : Pg l k S C := ⟨h.trim, Nat.le_trans h.len hn, h.sz.mono hb⟩
theorem Pg.add (h : Pg l n S B) (h' : Pg m k S C) : Pg (DN.cut (padd l m)) (max n k) S (B + C) := Pg.cut (h.sz.padd h'.sz) (Nat.le_trans (cut_len _) (by rw [padd_len]; have := h.len; have := h'.len; omega))
theorem Pg.mul (h : Pg l n S B) (h' : Pg m k T C) : Pg (DN.cut (pmul l m)) (n + k - 1) (S * T) (n * (B * C)) := Pg.cut ((Ps.pmul h'.sz h.sz).mono (Nat.mul_le_mul_right _ h.len)) (Nat.le_trans (cut_pmul_len l m) (by have := h.len; have := h'.len; omega))
theorem Pg.scale (h : Pg l n S B) (hT : 0 < T) : Pg l n (S * T) (B * T) := ⟨h.trim, h.len, h.sz.scale hT⟩
end
end DN

/-! DN9: primes, square-free integers, integer square roots (plain). -/
namespace DN
def Pr (p : Nat) : Prop := 2 ≤ p ∧ ∀ m, m ∣ p → m = 1 ∨ m = p
theorem exPr : ∀ n : Nat, 2 ≤ n → ∃ p, Pr p ∧ p ∣ n := by
  intro n
  induction n using Nat.strongRecOn with
  | _ n ih =>
    intro h
    by_cases hp : Pr n
    · exact ⟨n, hp, Nat.dvd_refl n⟩
    · have : ∃ m, m ∣ n ∧ m ≠ 1 ∧ m ≠ n := by
        apply Classical.byContradiction
        intro hc
        refine hp ⟨h, fun m hm => ?_⟩
        apply Classical.byContradiction
        intro hm2
        exact hc ⟨m, hm, fun e => hm2 (.inl e), fun e => hm2 (.inr e)⟩
      obtain ⟨m, hm, h1, h2⟩ := this
      have hle : m ≤ n := Nat.le_of_dvd (by omega) hm
      have h0 : m ≠ 0 := fun e => by subst e; have := Nat.eq_zero_of_zero_dvd hm; omega
      obtain ⟨p, hp1, hp2⟩ := ih m (by omega) (by omega)
      exact ⟨p, hp1, Nat.dvd_trans hp2 hm⟩
theorem Pr.cop {p a : Nat} (h : Pr p) (ha : ¬ p ∣ a) : Nat.Coprime p a := by
  rcases h.2 _ (Nat.gcd_dvd_left p a) with e | e
  · exact e
  · exact absurd (e ▸ Nat.gcd_dvd_right p a) ha
theorem Pr.mul {p a b : Nat} (h : Pr p) (hd : p ∣ a * b) : p ∣ a ∨ p ∣ b := by
  by_cases ha : p ∣ a
  · exact .inl ha
  · exact .inr ((h.cop ha).dvd_of_dvd_mul_left hd)
/-- no square above 1 divides it -/
def SF (n : Nat) : Prop := ∀ t, 2 ≤ t → ¬ t * t ∣ n
theorem SF.of_pr {n : Nat} (h : ∀ p, Pr p → ¬ p * p ∣ n) : SF n := fun t ht hd => by
  obtain ⟨p, hp, hpt⟩ := exPr t ht
  exact h p hp (Nat.dvd_trans (Nat.mul_dvd_mul hpt hpt) hd)
/-- d is o o i l; all parts below part are put into o and i -/
structure Sqi (n o i l part : Nat) : Prop where
  eq : n = o * o * i * l
  o1 : 1 ≤ o
  i1 : 1 ≤ i
  l1 : 1 ≤ l
  p2 : 2 ≤ part
  low : ∀ t, 2 ≤ t → t < part → ¬ t ∣ l
  isf : SF i
  ifac : ∀ p, Pr p → p ∣ i → p < part
theorem Sqi.start {n : Nat} (h : 1 ≤ n) : Sqi n 1 1 n 2 := ⟨by simp, by omega, by omega, h, by omega, fun t h1 h2 => by omega, fun t ht hd => by
  have := Nat.le_of_dvd (by omega) hd
  have : 2 * 2 ≤ t * t := Nat.mul_le_mul ht ht
  omega, fun p hp hd => by have := Nat.le_of_dvd (by omega) hd; have := hp.1; omega⟩
theorem Sqi.square {n o i l part : Nat} (h : Sqi n o i l part) (hd : part * part ∣ l) : Sqi n (o * part) i (l / (part * part)) part := by
  obtain ⟨k, rfl⟩ := hd
  have hp := h.p2
  have hpp : 0 < part * part := Nat.mul_pos (by omega) (by omega)
  have hk : k ≠ 0 := fun e => by have := h.l1; rw [e] at this; omega
  rw [Nat.mul_div_cancel_left k hpp]
  refine ⟨by rw [h.eq]; grind, Nat.mul_pos h.o1 (by omega), h.i1, by omega, hp, fun t h1 h2 hd => h.low t h1 h2 (Nat.dvd_trans hd (Nat.dvd_mul_left ..)), h.isf, h.ifac⟩
theorem Sqi.skip {n o i l part : Nat} (h : Sqi n o i l part) (hd : ¬ part ∣ l) : Sqi n o i l (part + 1) :=
  ⟨h.eq, h.o1, h.i1, h.l1, by have := h.p2; omega, fun t h1 h2 => by
    by_cases e : t = part
    · rw [e]; exact hd
    · exact h.low t h1 (by omega), h.isf, fun p h1 h2 => by have := h.ifac p h1 h2; omega⟩
theorem Sqi.once {n o i l part : Nat} (h : Sqi n o i l part) (hs : ¬ part * part ∣ l) (hd : part ∣ l) : Sqi n o (i * part) (l / part) (part + 1) := by
  obtain ⟨k, rfl⟩ := hd
  have hp := h.p2
  have hk : k ≠ 0 := fun e => by have := h.l1; rw [e] at this; omega
  have hpr : Pr part := ⟨hp, fun m hm => by
    apply Classical.byContradiction
    intro hc
    have hle : m ≤ part := Nat.le_of_dvd (by omega) hm
    have h0 : m ≠ 0 := fun e => by subst e; have := Nat.eq_zero_of_zero_dvd hm; omega
    have h1 : m ≠ 1 := fun e => hc (.inl e)
    have h2 : m ≠ part := fun e => hc (.inr e)
    exact h.low m (by omega) (by omega) (Nat.dvd_trans hm (Nat.dvd_mul_right ..))⟩
  have hni : ¬ part ∣ i := fun hd => by have := h.ifac part hpr hd; omega
  rw [Nat.mul_div_cancel_left k (by omega)]
  refine ⟨by rw [h.eq]; grind, h.o1, Nat.mul_pos h.i1 (by omega), by omega, by omega, ?_, ?_, ?_⟩
  · intro t h1 h2 hd
    by_cases e : t = part
    · subst e
      exact hs (Nat.mul_dvd_mul_left _ hd)
    · exact h.low t h1 (by omega) (Nat.dvd_trans hd (Nat.dvd_mul_left ..))
  · refine SF.of_pr fun p hp2 hd => ?_
    by_cases e : p = part
    · subst e
      have : p ∣ i := Nat.dvd_of_mul_dvd_mul_right (by omega) hd
      exact hni this
    · have hc : ¬ p ∣ part := fun hd => by
        rcases hpr.2 p hd with e1 | e1
        · have := hp2.1; omega
        · exact e e1
      have c1 := hp2.cop hc
      have c2 : Nat.Coprime (p * p) part := Nat.Coprime.mul_left c1 c1
      exact h.isf p hp2.1 (c2.dvd_of_dvd_mul_right hd)
  · intro p h1 h2
    rcases h1.mul h2 with h3 | h3
    · have := h.ifac p h1 h3; omega
    · have := Nat.le_of_dvd (by omega) h3; omega
/-- behind the loop: what is left is a square, or free of squares -/
theorem Sqi.done {n o i l part : Nat} (h : Sqi n o i l part) (hb : l < part * part * part) (hs : ∀ r, r * r ≠ l) : SF (i * l) := by
  have hsf : SF l := fun t ht hd => by
    obtain ⟨m, rfl⟩ := hd
    have hp := h.p2
    have ht2 : part ≤ t := by
      apply Classical.byContradiction
      intro hc
      exact h.low t ht (by omega) (by rw [Nat.mul_assoc]; exact Nat.dvd_mul_right ..)
    have m1 : m < part := by
      apply Classical.byContradiction
      intro hc
      have e1 : part * part ≤ t * t := Nat.mul_le_mul ht2 ht2
      have e2 : part * part * part ≤ t * t * m := Nat.mul_le_mul e1 (by omega)
      omega
    by_cases m2 : 2 ≤ m
    · exact h.low m m2 m1 (Nat.dvd_mul_left ..)
    · have h0 : m ≠ 0 := fun e => by have := h.l1; rw [e] at this; omega
      have : m = 1 := by omega
      exact hs t (by rw [this]; simp)
  refine SF.of_pr fun p hp hd => ?_
  by_cases hlt : p < part
  · have hc : ¬ p ∣ l := h.low p hp.1 hlt
    have c1 := hp.cop hc
    have c2 : Nat.Coprime (p * p) l := Nat.Coprime.mul_left c1 c1
    exact h.isf p hp.1 (c2.dvd_of_dvd_mul_right hd)
  · have hc : ¬ p ∣ i := fun e => hlt (h.ifac p hp e)
    have c1 := hp.cop hc
    have c2 : Nat.Coprime (p * p) i := Nat.Coprime.mul_left c1 c1
    exact hsf p hp.1 (c2.dvd_of_dvd_mul_left hd)
/-- the parts are told by the number alone -/
theorem sq_uniq {o i o' i' : Nat} (h : SF i) (h' : SF i') (ho : 1 ≤ o) (ho' : 1 ≤ o') (e : o * o * i = o' * o' * i') : o = o' ∧ i = i' := by
  have key : ∀ {o i o' i' : Nat}, SF i → 1 ≤ o → 1 ≤ o' → o * o * i = o' * o' * i' → o' ∣ o := by
    intro o i o' i' h ho ho' e
    let g := Nat.gcd o o'
    have g0 : 0 < g := Nat.gcd_pos_of_pos_left _ ho
    obtain ⟨a, ha⟩ : g ∣ o := Nat.gcd_dvd_left o o'
    obtain ⟨b, hb⟩ : g ∣ o' := Nat.gcd_dvd_right o o'
    have hc : Nat.Coprime a b := by
      have := Nat.coprime_div_gcd_div_gcd (m := o) (n := o') g0
      have e1 : o / Nat.gcd o o' = a := by
        show o / g = a
        rw [ha, Nat.mul_div_cancel_left a g0]
      have e2 : o' / Nat.gcd o o' = b := by
        show o' / g = b
        rw [hb, Nat.mul_div_cancel_left b g0]
      rwa [e1, e2] at this
    have e3 : a * a * i = b * b * i' := by
      have h1 : g * g * (a * a * i) = g * g * (b * b * i') := by
        have : (g * a) * (g * a) * i = (g * b) * (g * b) * i' := by rw [← ha, ← hb]; exact e
        grind
      exact Nat.eq_of_mul_eq_mul_left (Nat.mul_pos g0 g0) h1
    have d1 : b * b ∣ a * a * i := ⟨i', e3⟩
    have c2 : Nat.Coprime (b * b) (a * a) := Nat.Coprime.mul_left (Nat.Coprime.mul_right hc.symm hc.symm) (Nat.Coprime.mul_right hc.symm hc.symm)
    have d2 : b * b ∣ i := c2.dvd_of_dvd_mul_left d1
    have b1 : b = 1 := by
      apply Classical.byContradiction
      intro hb1
      have b0 : b ≠ 0 := fun z => by rw [z] at hb; omega
      exact h b (by omega) d2
    rw [b1, Nat.mul_one] at hb
    rw [hb]
    exact ⟨a, ha⟩
  have e1 := key h ho ho' e
  have e2 := key h' ho' ho e.symm
  have eo := Nat.dvd_antisymm e2 e1
  refine ⟨eo, ?_⟩
  subst eo
  exact Nat.eq_of_mul_eq_mul_left (Nat.mul_pos ho ho) e
/-! ### integer square roots by Newton's steps -/
/-- behind a step the number's root is still not above it -/
theorem newton {n f : Nat} (hf : 0 < f) : n < ((f + n / f) / 2 + 1) * ((f + n / f) / 2 + 1) := by
  have hn : n < f * (n / f) + f := by
    have := Nat.div_add_mod n f
    have := Nat.mod_lt n hf
    omega
  generalize n / f = c at *
  have h2 : f + c + 1 ≤ 2 * ((f + c) / 2 + 1) := by omega
  generalize (f + c) / 2 + 1 = s at *
  have h3 : (f + c + 1) * (f + c + 1) ≤ (2 * s) * (2 * s) := Nat.mul_le_mul h2 h2
  have h4 : (2 * s) * (2 * s) = 4 * (s * s) := by grind
  have h5 : 4 * (f * c + f) ≤ (f + c + 1) * (f + c + 1) := by
    rcases Nat.le_total f (c + 1) with h | h
    · obtain ⟨k, hk⟩ : ∃ k, c + 1 = f + k := ⟨c + 1 - f, by omega⟩
      have e1 : f + c + 1 = 2 * f + k := by omega
      have e2 : f * c + f = f * (f + k) := by rw [← hk]; grind
      rw [e1, e2]
      have : (2 * f + k) * (2 * f + k) = 4 * (f * (f + k)) + k * k := by grind
      omega
    · obtain ⟨k, hk⟩ : ∃ k, f = c + 1 + k := ⟨f - (c + 1), by omega⟩
      have e2 : f * c + f = f * (c + 1) := by grind
      rw [e2, hk]
      have : (c + 1 + k + c + 1) * (c + 1 + k + c + 1) = 4 * ((c + 1 + k) * (c + 1)) + k * k := by grind
      omega
  omega
end DN

/-! DN10: sizes by one exponent; quotients. -/
namespace DN
open DL
/-- S times it is integral, S and the tops at most 2 ^ n -/
structure Sx {d : Int} (e : El d) (n : Nat) : Prop where
  ex : ∃ S B : Nat, Sz e S B ∧ S ≤ 2 ^ n ∧ B ≤ 2 ^ n
section
variable {d : Int} {x y : El d} {n m : Nat}
theorem Sz.sx {S B : Nat} (h : Sz x S B) (h1 : S ≤ 2 ^ n) (h2 : B ≤ 2 ^ n) : Sx x n := ⟨S, B, h, h1, h2⟩
theorem Sx.mono (h : Sx x n) (hn : n ≤ m) : Sx x m := by
  obtain ⟨S, B, h1, h2, h3⟩ := h.ex
  have := Nat.pow_le_pow_right (show 0 < 2 by decide) hn
  exact ⟨S, B, h1, by omega, by omega⟩
theorem Sx.add (h : Sx x n) (h' : Sx y m) : Sx (x + y) (n + m + 1) := by
  obtain ⟨S, B, h1, h2, h3⟩ := h.ex
  obtain ⟨T, C, k1, k2, k3⟩ := h'.ex
  have a := (h1.scale k1.pos).add (by have := k1.scale h1.pos; rw [Nat.mul_comm T S] at this; exact this)
  have e1 : S * T ≤ 2 ^ n * 2 ^ m := Nat.mul_le_mul h2 k2
  have e2 : B * T ≤ 2 ^ n * 2 ^ m := Nat.mul_le_mul h3 k2
  have e3 : C * S ≤ 2 ^ m * 2 ^ n := Nat.mul_le_mul k3 h2
  rw [Nat.mul_comm (2 ^ m)] at e3
  rw [← Nat.pow_add] at e1 e2 e3
  have e4 : 2 ^ (n + m + 1) = 2 ^ (n + m) * 2 := Nat.pow_succ ..
  exact ⟨_, _, a, by rw [e4]; omega, by rw [e4]; omega⟩
theorem Sx.mul (h : Sx x n) (h' : Sx y m) : Sx (x * y) (n + m) := by
  obtain ⟨S, B, h1, h2, h3⟩ := h.ex
  obtain ⟨T, C, k1, k2, k3⟩ := h'.ex
  exact ⟨_, _, h1.mul k1, by rw [Nat.pow_add]; exact Nat.mul_le_mul h2 k2, by rw [Nat.pow_add]; exact Nat.mul_le_mul h3 k3⟩
theorem Sx.neg (h : Sx x n) : Sx (-x) n := by
  obtain ⟨S, B, h1, h2, h3⟩ := h.ex
  exact ⟨S, B, h1.neg, h2, h3⟩
theorem Sx.zero : Sx (0 : El d) n := ⟨1, 0, Sz.zero (by decide), Nat.one_le_two_pow, Nat.zero_le _⟩
theorem Sx.one : Sx (1 : El d) n := ⟨1, 1, Sz.int 1 (by decide), Nat.one_le_two_pow, Nat.one_le_two_pow⟩
/-- so are the parts of its tuple -/
theorem Sx.canon (h : Sx x n) (hd : d ≠ 0) {p q s : Int} (c : Canon x p q s) : s.natAbs ≤ 2 ^ n ∧ p.natAbs ≤ 2 ^ n ∧ q.natAbs ≤ 2 ^ n := by
  obtain ⟨S, B, h1, h2, h3⟩ := h.ex
  obtain ⟨a, b, e⟩ := h1.canon hd c
  exact ⟨by omega, by omega, by omega⟩
theorem Sx.of_canon {p q s : Int} (c : Canon x p q s) (h1 : s.natAbs ≤ 2 ^ n) (h2 : p.natAbs + q.natAbs * d.natAbs ≤ 2 ^ n) : Sx x n := by
  have hs := c.pos
  have e : ((s.natAbs : Nat) : Int) = s := by omega
  exact ⟨s.natAbs, _, ⟨by omega, p, q, by rw [e]; exact c.hp, by rw [e]; exact c.hq, Nat.le_refl _⟩, h1, h2⟩
/-! ### quotients -/
/-- no square: a a - b b d is zero at zero alone -/
def Nsq (d : Int) : Prop := ∀ p q : Int, p * p = q * q * d → p = 0 ∧ q = 0
theorem Nsq.of {d : Int} (h1 : d ≠ 1) (h0 : d ≠ 0) (h : SF d.natAbs) : Nsq d := by
  intro p q e
  have en : p.natAbs * p.natAbs * 1 = q.natAbs * q.natAbs * d.natAbs := by
    have := congrArg Int.natAbs e
    rw [Int.natAbs_mul, Int.natAbs_mul, Int.natAbs_mul] at this
    omega
  by_cases hq : q = 0
  · subst hq
    have : p * p = 0 := by rw [e]; simp
    rcases Int.mul_eq_zero.mp this with z | z <;> exact ⟨z, rfl⟩
  · by_cases hp : p = 0
    · subst hp
      have : q * q * d = 0 := by rw [← e]; simp
      rcases Int.mul_eq_zero.mp this with z | z
      · rcases Int.mul_eq_zero.mp z with z | z <;> exact ⟨rfl, z⟩
      · exact absurd z h0
    · have s1 : SF 1 := fun t ht hd => by
        have := Nat.le_of_dvd (by decide) hd
        have : 2 * 2 ≤ t * t := Nat.mul_le_mul ht ht
        omega
      have := (sq_uniq s1 h (by omega) (by omega) en).2
      have hd : d = -1 := by omega
      subst hd
      have p2 : 0 < p * p := by
        rcases Int.lt_or_lt_of_ne hp with z | z
        · exact Int.mul_pos_of_neg_of_neg z z
        · exact Int.mul_pos z z
      have q2 : 0 ≤ q * q := by
        rcases Int.lt_or_lt_of_ne hq with z | z
        · exact Int.le_of_lt (Int.mul_pos_of_neg_of_neg z z)
        · exact Int.le_of_lt (Int.mul_pos z z)
      omega
/-- the inverse -/
def inv (x : El d) : El d := ⟨x.a / (x.a * x.a - x.b * x.b * d), -x.b / (x.a * x.a - x.b * x.b * d)⟩
/-- its tops and bottom, not yet in lowest terms -/
theorem inv_raw (hn : Nsq d) (hx : x ≠ 0) {p q s : Int} (c : Canon x p q s) : ((s * p : Int) : Rat) = (inv x).a * ((p * p - q * q * d : Int) : Rat) ∧ ((-(s * q) : Int) : Rat) = (inv x).b * ((p * p - q * q * d : Int) : Rat) ∧ p * p - q * q * d ≠ 0 := by
  have hN : p * p - q * q * d ≠ 0 := fun z => by
    obtain ⟨z1, z2⟩ := hn p q (by omega)
    apply hx
    have := c.el
    rw [this, z1, z2]
    ext
    · show ((0 : Int) : Rat) / s = 0; grind
    · show ((0 : Int) : Rat) / s = 0; grind
  have hs : (s : Rat) ≠ 0 := rcast_ne (by have := c.pos; omega)
  have hNr : ((p * p - q * q * d : Int) : Rat) ≠ 0 := rcast_ne hN
  have e0 : ((p * p - q * q * d : Int) : Rat) = (x.a * x.a - x.b * x.b * d) * (s * s) := by
    rw [Rat.intCast_sub, rcast_mul, rcast_mul, rcast_mul, c.hp, c.hq]; grind
  have hD : x.a * x.a - x.b * x.b * d ≠ 0 := fun z => hNr (by rw [e0, z]; grind)
  refine ⟨?_, ?_, hN⟩
  · rw [e0, rcast_mul, c.hp]
    show (s : Rat) * (x.a * s) = x.a / (x.a * x.a - x.b * x.b * d) * ((x.a * x.a - x.b * x.b * d) * (s * s))
    grind
  · rw [e0, Rat.intCast_neg, rcast_mul, c.hq]
    show -((s : Rat) * (x.b * s)) = -x.b / (x.a * x.a - x.b * x.b * d) * ((x.a * x.a - x.b * x.b * d) * (s * s))
    grind
theorem mul_inv (hn : Nsq d) (hx : x ≠ 0) : x * inv x = 1 := by
  obtain ⟨h1, h2, h3⟩ := inv_raw hn hx (cn_ok x)
  have c := cn_ok x
  have hs : ((cn x).2.2 : Rat) ≠ 0 := rcast_ne (by have := c.pos; omega)
  have e0 : (((cn x).1 * (cn x).1 - (cn x).2.1 * (cn x).2.1 * d : Int) : Rat) = (x.a * x.a - x.b * x.b * d) * ((cn x).2.2 * (cn x).2.2) := by
    rw [Rat.intCast_sub, rcast_mul, rcast_mul, rcast_mul, c.hp, c.hq]; grind
  have hD : x.a * x.a - x.b * x.b * d ≠ 0 := fun z => rcast_ne h3 (by rw [e0, z]; grind)
  ext
  · show x.a * (x.a / (x.a * x.a - x.b * x.b * d)) + x.b * (-x.b / (x.a * x.a - x.b * x.b * d)) * d = 1
    grind
  · show x.a * (-x.b / (x.a * x.a - x.b * x.b * d)) + x.b * (x.a / (x.a * x.a - x.b * x.b * d)) = 0
    grind
theorem raw_sz {P Q S : Int} (hS : S ≠ 0) (h1 : (P : Rat) = x.a * S) (h2 : (Q : Rat) = x.b * S) : Sz x S.natAbs (P.natAbs + Q.natAbs * d.natAbs) := by
  by_cases h : 0 < S
  · have e : ((S.natAbs : Nat) : Int) = S := by omega
    exact ⟨by omega, P, Q, by rw [e]; exact h1, by rw [e]; exact h2, Nat.le_refl _⟩
  · have e : ((S.natAbs : Nat) : Int) = -S := by omega
    exact ⟨by omega, -P, -Q, by rw [e, Rat.intCast_neg, Rat.intCast_neg, h1]; grind, by rw [e, Rat.intCast_neg, Rat.intCast_neg, h2]; grind, by rw [Int.natAbs_neg, Int.natAbs_neg]; exact Nat.le_refl _⟩
theorem Sx.inv (hn : Nsq d) (hx : x ≠ 0) (hd0 : d ≠ 0) (hd : d.natAbs ≤ 2 ^ 40) (h : Sx x n) : Sx (DN.inv x) (2 * n + 41) := by
  have c := cn_ok x
  obtain ⟨h1, h2, h3⟩ := inv_raw hn hx c
  obtain ⟨b1, b2, b3⟩ := h.canon hd0 c
  generalize (cn x).1 = p at *
  generalize (cn x).2.1 = q at *
  generalize (cn x).2.2 = s at *
  have e2 : 2 ^ (2 * n + 41) = 2 ^ n * 2 ^ n * 2 ^ 40 * 2 := by rw [show 2 * n + 41 = n + n + 40 + 1 by omega, Nat.pow_succ, Nat.pow_add, Nat.pow_add]
  have m1 : s.natAbs * p.natAbs ≤ 2 ^ n * 2 ^ n := Nat.mul_le_mul b1 b2
  have m2 : s.natAbs * q.natAbs * d.natAbs ≤ 2 ^ n * 2 ^ n * 2 ^ 40 := Nat.mul_le_mul (Nat.mul_le_mul b1 b3) hd
  have m3 : p.natAbs * p.natAbs ≤ 2 ^ n * 2 ^ n := Nat.mul_le_mul b2 b2
  have m4 : q.natAbs * q.natAbs * d.natAbs ≤ 2 ^ n * 2 ^ n * 2 ^ 40 := Nat.mul_le_mul (Nat.mul_le_mul b3 b3) hd
  have up : 2 ^ n * 2 ^ n ≤ 2 ^ n * 2 ^ n * 2 ^ 40 := Nat.le_mul_of_pos_right _ (by decide)
  refine ⟨_, _, raw_sz h3 h1 h2, ?_, ?_⟩
  · have : (p * p - q * q * d).natAbs ≤ p.natAbs * p.natAbs + q.natAbs * q.natAbs * d.natAbs := by
      refine Nat.le_trans (Int.natAbs_sub_le ..) ?_
      rw [Int.natAbs_mul, Int.natAbs_mul, Int.natAbs_mul]; exact Nat.le_refl _
    rw [e2]; omega
  · rw [Int.natAbs_neg, Int.natAbs_mul, Int.natAbs_mul, e2]; omega
end
end DN

/-! DN11: coefficients, degrees, the slope of a polynomial; what stands at x + h. -/
namespace DN
section
variable {R : Type} [Lean.Grind.CommRing R]
/-- the coefficients of a polynomial -/
def cf : Po R → Nat → R := Quotient.lift co fun l m h => funext h
theorem cf_po (l : List R) (i : Nat) : cf (po l) i = co l i := rfl
theorem cf_ext {p q : Po R} (h : ∀ i, cf p i = cf q i) : p = q := by
  revert h
  exact Po.ind (p := fun p => (∀ i, cf p i = cf q i) → p = q) (fun l => Po.ind (p := fun q => (∀ i, cf (po l) i = cf q i) → po l = q) (fun m h => po_eq.mpr h) q) p
theorem cf_add (p q : Po R) (i : Nat) : cf (p + q) i = cf p i + cf q i :=
  Po.ind (p := fun p => cf (p + q) i = cf p i + cf q i) (fun l => Po.ind (p := fun q => cf (po l + q) i = cf (po l) i + cf q i) (fun m => co_padd l m i) q) p
theorem cf_Cmul (a : R) (p : Po R) (i : Nat) : cf (Po.C a * p) i = a * cf p i :=
  Po.ind (p := fun p => cf (Po.C a * p) i = a * cf p i) (fun l => Po.co_C a l i) p
theorem cf_zero (i : Nat) : cf (0 : Po R) i = 0 := Po.co_zero i
theorem cf_neg (p : Po R) (i : Nat) : cf (-p) i = -cf p i :=
  Po.ind (p := fun p => cf (-p) i = -cf p i) (fun l => by
    show co (psc (-1) l) i = -co l i
    rw [co_psc]; grind) p
theorem cf_sub (p q : Po R) (i : Nat) : cf (p - q) i = cf p i - cf q i := by
  show cf (p + -q) i = _
  rw [cf_add, cf_neg]; grind
theorem cf_C0 (a : R) : cf (Po.C a) 0 = a := rfl
theorem cf_CS (a : R) (i : Nat) : cf (Po.C a) (i + 1) = 0 := co_nil i
theorem cf_X0 (p : Po R) : cf (PX * p) 0 = 0 :=
  Po.ind (p := fun p => cf (PX * p) 0 = 0) (fun l => by rw [← po_tl]; rfl) p
theorem cf_XS (p : Po R) (i : Nat) : cf (PX * p) (i + 1) = cf p i :=
  Po.ind (p := fun p => cf (PX * p) (i + 1) = cf p i) (fun l => by rw [← po_tl]; rfl) p
theorem cf_Xk (p : Po R) : ∀ (k i : Nat), cf (PX ^ k * p) (k + i) = cf p i
  | 0, i => by
    have : (PX : Po R) ^ 0 = 1 := rfl
    rw [this, Nat.zero_add, show (1 : Po R) * p = p by grind]
  | k + 1, i => by
    have : (PX : Po R) ^ (k + 1) = PX ^ k * PX := rfl
    rw [this, show PX ^ k * PX * p = PX * (PX ^ k * p) by grind, show k + 1 + i = (k + i) + 1 by omega, cf_XS, cf_Xk p k i]
/-- the degree is below n -/
def Dl (n : Nat) (p : Po R) : Prop := ∀ i, n ≤ i → cf p i = 0
theorem Dl.mono {n m : Nat} {p : Po R} (h : Dl n p) (k : n ≤ m) : Dl m p := fun i hi => h i (by omega)
theorem Dl.zero (n : Nat) : Dl n (0 : Po R) := fun i _ => cf_zero i
theorem Dl.add {n : Nat} {p q : Po R} (h : Dl n p) (h' : Dl n q) : Dl n (p + q) := fun i hi => by rw [cf_add, h i hi, h' i hi]; grind
theorem Dl.sub {n : Nat} {p q : Po R} (h : Dl n p) (h' : Dl n q) : Dl n (p - q) := fun i hi => by rw [cf_sub, h i hi, h' i hi]; grind
theorem Dl.Cmul {n : Nat} {p : Po R} (a : R) (h : Dl n p) : Dl n (Po.C a * p) := fun i hi => by rw [cf_Cmul, h i hi]; grind
theorem Dl.po (l : List R) : Dl l.length (DN.po l) := fun i hi => co_over l i hi
theorem Dl.X {n : Nat} {p : Po R} (h : Dl n p) : Dl (n + 1) (PX * p) := fun i hi => by
  cases i with
  | zero => omega
  | succ j => rw [cf_XS]; exact h j (by omega)
theorem Dl.Xk {n : Nat} {p : Po R} (h : Dl n p) : ∀ k : Nat, Dl (n + k) (PX ^ k * p)
  | 0 => by
    have : (PX : Po R) ^ 0 = 1 := rfl
    rw [this, show (1 : Po R) * p = p by grind]; exact h
  | k + 1 => by
    have : (PX : Po R) ^ (k + 1) = PX ^ k * PX := rfl
    rw [this, show PX ^ k * PX * p = PX * (PX ^ k * p) by grind]; exact (h.Xk k).X
theorem Dl.eq0 {p : Po R} (h : Dl 0 p) : p = 0 := cf_ext fun i => by rw [h i (Nat.zero_le _), cf_zero]
theorem Dl.eqC {p : Po R} (h : Dl 1 p) : p = Po.C (cf p 0) := cf_ext fun i => by
  cases i with
  | zero => rfl
  | succ j => rw [h (j + 1) (by omega), cf_CS]
theorem co_map_range (f : Nat → R) (n i : Nat) : co ((List.range n).map f) i = if i < n then f i else 0 := by
  have : ∀ (l : List R) (i : Nat), co l i = (l[i]?).getD 0 := by
    intro l
    induction l with
    | nil => intro i; rw [co_nil]; simp
    | cons a l ih =>
      intro i
      cases i with
      | zero => rfl
      | succ j => show co l j = _; rw [ih]; simp
  rw [this]
  by_cases h : i < n
  · simp [h]
  · simp [h]
theorem Dl.ex {n : Nat} {p : Po R} (h : Dl n p) : ∃ l : List R, l.length = n ∧ p = DN.po l :=
  ⟨(List.range n).map (cf p), by simp, cf_ext fun i => by
    rw [cf_po, co_map_range]
    split
    · rfl
    · exact h i (by omega)⟩
theorem Dl.mul {n m : Nat} {p q : Po R} (h : Dl n p) (h' : Dl m q) : Dl (n + m - 1) (p * q) := by
  obtain ⟨l, e1, rfl⟩ := h.ex
  obtain ⟨k, e2, rfl⟩ := h'.ex
  intro i hi
  classical exact co_pmul_over l k i (by omega)
theorem co_top : ∀ (l m : List R) (n k : Nat), l.length = n + 1 → m.length = k + 1 → co (pmul l m) (n + k) = co l n * co m k
  | [], m, n, k, h, _ => by simp at h
  | a :: l, m, 0, k, h, h' => by
    have : l = [] := List.eq_nil_of_length_eq_zero (by simpa using h)
    rw [this, Nat.zero_add, Po.co_C]; rfl
  | a :: l, m, n + 1, k, h, h' => by
    rw [co_pmul_cons, show n + 1 + k = (n + k) + 1 by omega]
    show a * co m (n + k + 1) + co (pmul l m) (n + k) = co l n * co m k
    rw [co_over m _ (by omega), co_top l m n k (by simpa using h) h']; grind
theorem cf_top {n m : Nat} {p q : Po R} (h : Dl (n + 1) p) (h' : Dl (m + 1) q) : cf (p * q) (n + m) = cf p n * cf q m := by
  obtain ⟨l, e1, rfl⟩ := h.ex
  obtain ⟨k, e2, rfl⟩ := h'.ex
  exact co_top l k n m e1 e2
/-- the slope -/
def der : List R → List R
  | [] => []
  | a :: l => padd l (0 :: der l)
theorem co_der : ∀ (l : List R) (i : Nat), co (der l) i = nc (i + 1) * co l (i + 1)
  | [], i => by
    show co [] i = _ * co [] (i + 1)
    rw [co_nil, co_nil]; grind
  | a :: l, i => by
    show co (padd l (0 :: der l)) i = _ * co l i
    rw [co_padd]
    cases i with
    | zero =>
      have : (nc (0 + 1) : R) = 1 := by
        show (Lean.Grind.Semiring.natCast (α := R)).natCast (0 + 1) = 1
        exact (Lean.Grind.Semiring.ofNat_eq_natCast 1).symm
      show co l 0 + 0 = nc (0 + 1) * co l 0
      rw [this]; grind
    | succ j =>
      show co l (j + 1) + co (der l) j = nc (j + 1 + 1) * co l (j + 1)
      have : (nc (j + 1 + 1) : R) = nc (j + 1) + 1 := Lean.Grind.Semiring.natCast_succ (j + 1)
      rw [co_der l j, this]; grind
def Dr : Po R → Po R := Quotient.lift (fun l => po (der l)) fun l m h => po_eq.mpr fun i => by rw [co_der, co_der, h (i + 1)]
theorem Dr_po (l : List R) : Dr (po l) = po (der l) := rfl
theorem cf_Dr (p : Po R) (i : Nat) : cf (Dr p) i = nc (i + 1) * cf p (i + 1) := Po.ind (p := fun p => cf (Dr p) i = nc (i + 1) * cf p (i + 1)) (fun l => co_der l i) p
theorem Dr_add (p q : Po R) : Dr (p + q) = Dr p + Dr q := cf_ext fun i => by rw [cf_add, cf_Dr, cf_Dr, cf_Dr, cf_add]; grind
theorem Dr_Cm (a : R) (p : Po R) : Dr (Po.C a * p) = Po.C a * Dr p := cf_ext fun i => by rw [cf_Cmul, cf_Dr, cf_Dr, cf_Cmul]; grind
theorem Dr_C (a : R) : Dr (Po.C a) = 0 := cf_ext fun i => by rw [cf_Dr, cf_CS, cf_zero]; grind
theorem Dr_cons (a : R) (l : List R) : Dr (po (a :: l)) = po l + PX * Dr (po l) := by
  show po (padd l (0 :: der l)) = _
  rw [← Po.po_add, po_tl]; rfl
theorem Dr_X (p : Po R) : Dr (PX * p) = p + PX * Dr p := Po.ind (p := fun p => Dr (PX * p) = p + PX * Dr p) (fun l => by rw [← po_tl, Dr_cons]) p
theorem Dr_mul (p q : Po R) : Dr (p * q) = Dr p * q + p * Dr q := by
  have : ∀ l : List R, Dr (po l * q) = Dr (po l) * q + po l * Dr q := by
    intro l
    induction l with
    | nil =>
      rw [po_nil, show (0 : Po R) * q = 0 by grind, show (0 : Po R) = Po.C 0 from rfl, Dr_C]
      rw [show Po.C (0 : R) = (0 : Po R) from rfl]; grind
    | cons a l ih =>
      rw [Dr_cons, po_cons, show (po [0, 1] : Po R) = PX from rfl, show (Po.C a + PX * po l) * q = Po.C a * q + PX * (po l * q) by grind, Dr_add, Dr_Cm, Dr_X, ih]
      grind
  exact Po.ind (p := fun p => Dr (p * q) = Dr p * q + p * Dr q) this p
theorem Dl.Dr {n : Nat} {p : Po R} (h : Dl (n + 1) p) : Dl n (DN.Dr p) := fun i hi => by rw [cf_Dr, h (i + 1) (by omega)]; grind
/-! ### values -/
theorem Ev_sub (y : R) (a b : Po R) : Ev y (a - b) = Ev y a - Ev y b := by
  have h : a - b = a + Po.C (-1) * b := by
    have e : (Po.C (-1 : R)) = -1 := by
      apply cf_ext; intro i
      cases i with
      | zero => rw [cf_neg]; rfl
      | succ j =>
        rw [cf_neg, cf_CS]
        have : cf (1 : Po R) (j + 1) = 0 := cf_CS 1 j
        rw [this]; grind
    rw [e]; grind
  rw [h, Ev_add, Ev_mul, Ev_C]; grind
theorem Ev_one (y : R) : Ev y (1 : Po R) = 1 := Ev_C y 1
/-- n less r -/
def Lr (r : R) : Po R := PX - Po.C r
theorem Ev_Lr (y r : R) : Ev y (Lr r) = y - r := by unfold Lr; rw [Ev_sub, Ev_X, Ev_C]
theorem rest_at (r : R) : ∀ l : List R, ∃ h : Po R, po l = Lr r * h + Po.C (ev r l)
  | [] => ⟨0, by rw [po_nil]; show (0 : Po R) = Lr r * 0 + Po.C 0; rw [C_zero]; grind⟩
  | a :: l => by
    obtain ⟨h, e⟩ := rest_at r l
    refine ⟨PX * h + Po.C (ev r l), ?_⟩
    rw [po_cons, show (po [0, 1] : Po R) = PX from rfl, e]
    show _ = Lr r * (PX * h + Po.C (ev r l)) + Po.C (a + r * ev r l)
    rw [C_add, C_mul]
    unfold Lr
    grind
theorem root_fac {r : R} {p : Po R} (h : Ev r p = 0) : ∃ g, p = Lr r * g := by
  revert h
  refine Po.ind (p := fun p => Ev r p = 0 → ∃ g, p = Lr r * g) (fun l h => ?_) p
  obtain ⟨g, e⟩ := rest_at r l
  have : ev r l = 0 := h
  rw [this, C_zero] at e
  exact ⟨g, by rw [e]; grind⟩
theorem Dr_Lr (r : R) : Dr (Lr r) = 1 := by
  apply cf_ext; intro i
  rw [cf_Dr]
  unfold Lr
  rw [cf_sub, cf_CS]
  have e : cf (PX : Po R) (i + 1) = cf (1 : Po R) i := by
    cases i with
    | zero => rfl
    | succ j => rfl
  rw [e]
  cases i with
  | zero =>
    have : (nc (0 + 1) : R) = 1 := (Lean.Grind.Semiring.ofNat_eq_natCast 1).symm
    rw [this]; grind
  | succ j =>
    have : cf (1 : Po R) (j + 1) = 0 := cf_CS 1 j
    rw [this]; grind
theorem Dr_pow (r : R) (h : Po R) : ∀ m : Nat, Dr (Lr r ^ (m + 1) * h) = Lr r ^ m * (Po.C (nc (m + 1)) * h + Lr r * Dr h)
  | 0 => by
    have e1 : Lr r ^ (0 + 1) = Lr r ^ 0 * Lr r := rfl
    have e0 : Lr r ^ 0 = (1 : Po R) := rfl
    have : (nc (0 + 1) : R) = 1 := (Lean.Grind.Semiring.ofNat_eq_natCast 1).symm
    rw [e1, e0, this, C_one, show (1 : Po R) * Lr r * h = Lr r * h by grind, Dr_mul, Dr_Lr]; grind
  | m + 1 => by
    have e1 : Lr r ^ (m + 1 + 1) = Lr r ^ (m + 1) * Lr r := rfl
    have e2 : Lr r ^ (m + 1) = Lr r ^ m * Lr r := rfl
    have : (nc (m + 1 + 1) : R) = nc (m + 1) + 1 := Lean.Grind.Semiring.natCast_succ (m + 1)
    rw [e1, show Lr r ^ (m + 1) * Lr r * h = Lr r ^ (m + 1) * (Lr r * h) by grind, Dr_pow r (Lr r * h) m, Dr_mul, Dr_Lr, this, C_add, C_one, e2]
    grind
/-- what stands at x + h -/
theorem taylor (x h : R) : ∀ l : List R, ∃ k, ev (x + h) l = ev x l + h * ev x (der l) + h * h * k
  | [] => ⟨0, by show (0 : R) = 0 + h * 0 + h * h * 0; grind⟩
  | a :: l => by
    obtain ⟨k, e⟩ := taylor x h l
    refine ⟨ev x (der l) + (x + h) * k, ?_⟩
    have e2 : ev x (der (a :: l)) = ev x l + x * ev x (der l) := by
      show at_ id x (padd l (0 :: der l)) = _
      rw [at_padd (RHid R) x]
      show ev x l + (0 + x * ev x (der l)) = _
      grind
    rw [e2]
    show a + (x + h) * ev (x + h) l = (a + x * ev x l) + _ + _
    rw [e]; grind
end
end DN

/-! DN12: polynomials of fractions: degrees, greatest common divisors, roots of a polynomial without its slope's part. -/
namespace DN
abbrev Pq := Po Rat
theorem nc_rat (n : Nat) : (nc n : Rat) = (n : Rat) := rfl
/-- the degree is n -/
def Dg (n : Nat) (p : Pq) : Prop := Dl (n + 1) p ∧ cf p n ≠ 0
theorem Dg.ne {n : Nat} {p : Pq} (h : Dg n p) : p ≠ 0 := fun z => h.2 (by rw [z, cf_zero])
theorem Dg.mul {n m : Nat} {p q : Pq} (h : Dg n p) (h' : Dg m q) : Dg (n + m) (p * q) :=
  ⟨(h.1.mul h'.1).mono (by omega), by rw [cf_top h.1 h'.1]; have := h.2; have := h'.2; grind⟩
theorem Dg.ex {p : Pq} (h : p ≠ 0) : ∃ n, Dg n p := by
  revert h
  refine Po.ind (p := fun p => p ≠ 0 → ∃ n, Dg n p) (fun l h => ?_) p
  have e := po_cut l
  rcases cut_trim l with z | z
  · rw [z, po_nil] at e; exact absurd e.symm h
  · rw [← e]
    refine ⟨(cut l).length - 1, fun i hi => co_over _ i (by omega), z⟩
theorem Dg.le {n m : Nat} {p : Pq} (h : Dg n p) (h' : Dl m p) : n < m := by
  rcases Nat.lt_or_ge n m with k | k
  · exact k
  · exact absurd (h' n k) h.2
theorem Dg.uniq {n m : Nat} {p : Pq} (h : Dg n p) (h' : Dg m p) : n = m := by
  have := h.le h'.1
  have := h'.le h.1
  omega
theorem dom {p q : Pq} (h : p * q = 0) : p = 0 ∨ q = 0 := by
  by_cases hp : p = 0
  · exact .inl hp
  · by_cases hq : q = 0
    · exact .inr hq
    · obtain ⟨n, hn⟩ := Dg.ex hp
      obtain ⟨m, hm⟩ := Dg.ex hq
      exact absurd h (hn.mul hm).ne
theorem cancel {p a b : Pq} (hp : p ≠ 0) (h : p * a = p * b) : a = b := by
  have : p * (a - b) = 0 := by grind
  rcases dom this with z | z
  · exact absurd z hp
  · grind
theorem Dg.C {c : Rat} (h : c ≠ 0) : Dg 0 (Po.C c) := ⟨fun i hi => by
  cases i with
  | zero => omega
  | succ j => exact cf_CS c j, h⟩
theorem Dg.one : Dg 0 (1 : Pq) := Dg.C (by decide)
theorem Dg.zero_eq {p : Pq} (h : Dg 0 p) : ∃ c, c ≠ 0 ∧ p = Po.C c := ⟨cf p 0, h.2, Dl.eqC h.1⟩
theorem Dg.Lr (r : Rat) : Dg 1 (Lr r) := by
  refine ⟨?_, ?_⟩
  · intro i hi
    unfold DN.Lr
    rw [cf_sub]
    match i, hi with
    | i + 2, _ => rw [cf_CS, show cf (PX : Pq) (i + 2) = 0 from rfl]; grind
  · unfold DN.Lr
    rw [cf_sub, cf_CS, show cf (PX : Pq) 1 = 1 from rfl]; grind
theorem Dg.pow {p : Pq} {n : Nat} (h : Dg n p) : ∀ k : Nat, Dg (k * n) (p ^ k)
  | 0 => by rw [Nat.zero_mul]; exact Dg.one
  | k + 1 => by rw [Nat.succ_mul]; exact (h.pow k).mul h
/-- a divides b -/
def Dd (a b : Pq) : Prop := ∃ c, b = a * c
theorem Dd.refl (a : Pq) : Dd a a := ⟨1, by grind⟩
theorem Dd.trans {a b c : Pq} (h : Dd a b) (h' : Dd b c) : Dd a c := by
  obtain ⟨x, rfl⟩ := h
  obtain ⟨y, rfl⟩ := h'
  exact ⟨x * y, by grind⟩
theorem Dd.add {a b c : Pq} (h : Dd a b) (h' : Dd a c) : Dd a (b + c) := by
  obtain ⟨x, rfl⟩ := h
  obtain ⟨y, rfl⟩ := h'
  exact ⟨x + y, by grind⟩
theorem Dd.mul {a b : Pq} (h : Dd a b) (c : Pq) : Dd a (c * b) := by
  obtain ⟨x, rfl⟩ := h
  exact ⟨c * x, by grind⟩
theorem Dd.dg {a b : Pq} {n m : Nat} (h : Dd a b) (ha : Dg n a) (hb : Dg m b) : n ≤ m := by
  obtain ⟨c, rfl⟩ := h
  have hc : c ≠ 0 := fun z => hb.ne (by rw [z]; grind)
  obtain ⟨k, hk⟩ := Dg.ex hc
  have := (ha.mul hk).uniq hb
  omega
/-- division with a rest -/
theorem div_ex {b : Pq} {m : Nat} (hb : Dg m b) : ∀ (n : Nat) (a : Pq), Dl n a → ∃ q r, a = q * b + r ∧ Dl m r
  | 0, a, h => ⟨0, 0, by rw [h.eq0]; grind, Dl.zero m⟩
  | n + 1, a, h => by
    by_cases k : n + 1 ≤ m
    · exact ⟨0, a, by grind, h.mono k⟩
    · obtain ⟨j, rfl⟩ : ∃ j, n = j + m := ⟨n - m, by omega⟩
      let c := cf a (j + m) / cf b m
      have hd : Dl (j + m) (a - Po.C c * (PX ^ j * b)) := by
        intro i hi
        have h0 : Dl (j + m + 1) (a - Po.C c * (PX ^ j * b)) := h.sub (((hb.1.Xk j).mono (by omega)).Cmul c)
        by_cases e : i = j + m
        · subst e
          rw [cf_sub, cf_Cmul, cf_Xk]
          have := hb.2
          show cf a (j + m) - cf a (j + m) / cf b m * cf b m = 0
          grind
        · exact h0 i (by omega)
      obtain ⟨q, r, e, hr⟩ := div_ex hb (j + m) _ hd
      exact ⟨q + Po.C c * PX ^ j, r, by grind, hr⟩
/-- a greatest common divisor -/
theorem gcd_ex : ∀ (n : Nat) (a b : Pq), Dl n b → a ≠ 0 ∨ b ≠ 0 → ∃ g u v, g ≠ 0 ∧ Dd g a ∧ Dd g b ∧ g = u * a + v * b
  | 0, a, b, h, k => by
    have : b = 0 := h.eq0
    subst this
    have ha : a ≠ 0 := by rcases k with k | k <;> first | exact k | exact absurd rfl k
    exact ⟨a, 1, 0, ha, Dd.refl a, ⟨0, by grind⟩, by grind⟩
  | n + 1, a, b, h, k => by
    by_cases hb : b = 0
    · subst hb
      exact gcd_ex n a 0 (Dl.zero n) k
    · obtain ⟨m, hm⟩ := Dg.ex hb
      have ml := hm.le h
      obtain ⟨N, hN⟩ : ∃ N, Dl N a := by
        by_cases ha : a = 0
        · exact ⟨0, by rw [ha]; exact Dl.zero 0⟩
        · obtain ⟨t, ht⟩ := Dg.ex ha; exact ⟨_, ht.1⟩
      obtain ⟨q, r, e, hr⟩ := div_ex hm N a hN
      obtain ⟨g, u, v, g0, d1, d2, e2⟩ := gcd_ex n b r (hr.mono (by omega)) (.inl hb)
      refine ⟨g, v, u - v * q, g0, ?_, d1, ?_⟩
      · rw [e]; exact (d1.mul q).add d2
      · rw [e2, e]; grind
/-- without what it has with its slope: no repeated part -/
theorem free {p s g t u v : Pq} (p0 : p ≠ 0) (h1 : p = s * g) (h2 : Dr p = t * g) (h3 : g = u * p + v * Dr p) : ∃ a b : Pq, 1 = a * s + b * Dr s := by
  have g0 : g ≠ 0 := fun z => p0 (by rw [h1, z]; grind)
  have s0 : s ≠ 0 := fun z => p0 (by rw [h1, z]; grind)
  have k1 : 1 = u * s + v * t := by
    apply cancel g0
    have : g = u * (s * g) + v * (t * g) := by rw [← h1, ← h2]; exact h3
    grind
  have k2 : t * g = Dr s * g + s * Dr g := by rw [← h2, h1, Dr_mul]
  obtain ⟨N, hN⟩ : ∃ N, Dl N (Dr s) := by
    by_cases ha : Dr s = 0
    · exact ⟨0, by rw [ha]; exact Dl.zero 0⟩
    · obtain ⟨t, ht⟩ := Dg.ex ha; exact ⟨_, ht.1⟩
  obtain ⟨q, a, b, q0, d1, d2, e⟩ := gcd_ex N s (Dr s) hN (.inl s0)
  obtain ⟨s1, e1⟩ := d1
  obtain ⟨s2, e2⟩ := d2
  -- q divides q' s1
  have k3 : Dd q (Dr q * s1) := by
    have : Dr q * s1 = q * s2 - q * Dr s1 := by
      have := e2
      rw [e1, Dr_mul] at this
      grind
    exact ⟨s2 - Dr s1, by rw [this]; grind⟩
  obtain ⟨z, hz⟩ := k3
  have all : ∀ k : Nat, Dd (q ^ k) g := by
    intro k
    induction k with
    | zero =>
      have : q ^ 0 = (1 : Pq) := rfl
      rw [this]; exact ⟨g, by grind⟩
    | succ k ih =>
      obtain ⟨w, hw⟩ := ih
      have e3 : q ^ (k + 1) = q ^ k * q := rfl
      -- s g' in q^(k+1)
      have k4 : Dd (q ^ (k + 1)) (s * Dr g) := by
        cases k with
        | zero =>
          have e0 : q ^ 0 = (1 : Pq) := rfl
          rw [e3, e0, e1]
          exact ⟨s1 * Dr g, by grind⟩
        | succ j =>
          have e4 : q ^ (j + 1) = q ^ j * q := rfl
          have dp : ∀ m : Nat, Dr (q ^ (m + 1)) = q ^ m * (Po.C (nc (m + 1)) * Dr q) := by
            intro m
            induction m with
            | zero =>
              have e1 : q ^ (0 + 1) = q ^ 0 * q := rfl
              have e0 : q ^ 0 = (1 : Pq) := rfl
              have : (nc (0 + 1) : Rat) = 1 := rfl
              rw [e1, e0, this, C_one, show (1 : Pq) * q = q by grind]; grind
            | succ m ih =>
              have e1 : q ^ (m + 1 + 1) = q ^ (m + 1) * q := rfl
              have e2 : q ^ (m + 1) = q ^ m * q := rfl
              have : (nc (m + 1 + 1) : Rat) = nc (m + 1) + 1 := Lean.Grind.Semiring.natCast_succ (m + 1)
              rw [e1, Dr_mul, ih, this, C_add, C_one, e2]; grind
          rw [hw, Dr_mul, dp j, e1, e3, e4]
          have : q * s1 * (q ^ j * (Po.C (nc (j + 1)) * Dr q) * w + q ^ j * q * Dr w) = q ^ j * q * (Po.C (nc (j + 1)) * (Dr q * s1) * w + q * s1 * Dr w) := by grind
          rw [this, hz]
          exact ⟨Po.C (nc (j + 1)) * z * w + s1 * Dr w, by grind⟩
      have k5 : Dd (q ^ (k + 1)) (Dr s * g) := by
        rw [e3, e2, hw]
        exact ⟨s2 * w, by grind⟩
      have k6 : Dd (q ^ (k + 1)) (s * g) := by
        rw [e3, e1, hw]
        exact ⟨s1 * w, by grind⟩
      have : g = u * (s * g) + v * (Dr s * g + s * Dr g) := by
        rw [← k2]
        have : g = (u * s + v * t) * g := by rw [← k1]; grind
        grind
      rw [this]
      exact (k6.mul u).add ((k5.add k4).mul v)
  obtain ⟨n, hn⟩ := Dg.ex q0
  obtain ⟨m, hm⟩ := Dg.ex g0
  have n0 : n = 0 := by
    have := (all (m + 1)).dg (hn.pow (m + 1)) hm
    rcases Nat.eq_zero_or_pos n with z | z
    · exact z
    · have : (m + 1) * 1 ≤ (m + 1) * n := Nat.mul_le_mul_left _ z
      omega
  subst n0
  obtain ⟨c, c0, hc⟩ := hn.zero_eq
  refine ⟨Po.C (1 / c) * a, Po.C (1 / c) * b, ?_⟩
  have : Po.C (1 / c) * q = 1 := by
    rw [hc, ← C_mul, show 1 / c * c = 1 by grind, C_one]
  rw [← this, e]; grind
/-- p is a power of n - r and what is not zero there -/
theorem mult_ex (r : Rat) : ∀ (n : Nat) (p : Pq), p ≠ 0 → Dl n p → ∃ (m : Nat) (h : Pq), p = Lr r ^ m * h ∧ Ev r h ≠ 0
  | 0, p, p0, h => absurd h.eq0 p0
  | n + 1, p, p0, h => by
    by_cases z : Ev r p = 0
    · obtain ⟨g, rfl⟩ := root_fac z
      have g0 : g ≠ 0 := fun z => p0 (by rw [z]; grind)
      obtain ⟨k, hk⟩ := Dg.ex g0
      have := ((Dg.Lr r).mul hk).le h
      obtain ⟨m, w, e, hw⟩ := mult_ex r n g g0 (hk.1.mono (by omega))
      have e1 : (Lr r) ^ (m + 1) = Lr r ^ m * Lr r := rfl
      exact ⟨m + 1, w, by rw [e1, e]; grind, hw⟩
    · have e0 : (Lr r) ^ 0 = (1 : Pq) := rfl
      exact ⟨0, p, by rw [e0]; grind, z⟩
theorem Lr_ne (r : Rat) : Lr r ≠ 0 := (Dg.Lr r).ne
theorem Lr_pow_ne (r : Rat) (k : Nat) : Lr r ^ k ≠ 0 := ((Dg.Lr r).pow k).ne
theorem Ev_pow_zero (r : Rat) (k : Nat) : Ev r (Lr r ^ (k + 1)) = 0 := by
  have e1 : (Lr r) ^ (k + 1) = Lr r ^ k * Lr r := rfl
  rw [e1, Ev_mul, Ev_Lr]; grind
/-- a power of n - r divides the other factor -/
theorem pow_dd {r : Rat} {s : Pq} (hs : Ev r s ≠ 0) : ∀ (m : Nat) (g : Pq), Dd (Lr r ^ m) (s * g) → Dd (Lr r ^ m) g
  | 0, g, _ => by
    have e0 : (Lr r) ^ 0 = (1 : Pq) := rfl
    rw [e0]; exact ⟨g, by grind⟩
  | m + 1, g, h => by
    have e1 : (Lr r) ^ (m + 1) = Lr r ^ m * Lr r := rfl
    obtain ⟨c, hc⟩ := h
    have z : Ev r g = 0 := by
      have : Ev r (s * g) = 0 := by rw [hc, Ev_mul, Ev_pow_zero]; grind
      rw [Ev_mul] at this
      grind
    obtain ⟨g1, rfl⟩ := root_fac z
    have : s * g1 = Lr r ^ m * c := by
      apply cancel (Lr_ne r)
      rw [e1] at hc
      grind
    obtain ⟨d, hd⟩ := pow_dd hs m g1 ⟨c, this⟩
    exact ⟨d, by rw [e1, hd]; grind⟩
/-- what is left has the same roots -/
theorem same_roots {p s g t : Pq} (p0 : p ≠ 0) (h1 : p = s * g) (h2 : Dr p = t * g) (r : Rat) (h : Ev r p = 0) : Ev r s = 0 := by
  apply Classical.byContradiction
  intro hs
  obtain ⟨n, hn⟩ := Dg.ex p0
  obtain ⟨m, w, e, hw⟩ := mult_ex r _ p p0 hn.1
  cases m with
  | zero =>
    have e0 : (Lr r) ^ 0 = (1 : Pq) := rfl
    rw [e, e0, Ev_mul, Ev_one] at h
    exact hw (by grind)
  | succ k =>
    have d1 : Dd (Lr r ^ (k + 1)) (s * g) := ⟨w, by rw [← h1]; exact e⟩
    have d2 := pow_dd hs (k + 1) g d1
    have d3 : Dd (Lr r ^ (k + 1)) (Dr p) := by rw [h2]; exact d2.mul t
    obtain ⟨c, hc⟩ := d3
    rw [e, Dr_pow] at hc
    have e1 : (Lr r) ^ (k + 1) = Lr r ^ k * Lr r := rfl
    have : Po.C (nc (k + 1)) * w + Lr r * Dr w = Lr r * c := by
      apply cancel (Lr_pow_ne r k)
      rw [e1] at hc
      grind
    have hz := congrArg (Ev r) this
    rw [Ev_add, Ev_mul, Ev_mul, Ev_mul, Ev_C, Ev_Lr] at hz
    have : (nc (k + 1) : Rat) ≠ 0 := by
      rw [nc_rat]
      intro z
      have := Rat.natCast_eq_zero_iff.mp z
      omega
    have hz2 : (nc (k + 1) : Rat) * Ev r w = 0 := by
      have e0 : r - r = 0 := by grind
      rw [e0] at hz
      grind
    grind
end DN

/-! DN13: roots that are fractions: which they are; polynomials with integers, their roots by a modulus. -/
namespace DN
/-- the product of all n - r -/
def RP : List Rat → Pq
  | [] => 1
  | r :: rs => Lr r * RP rs
theorem RP_append : ∀ rs ts : List Rat, RP (rs ++ ts) = RP rs * RP ts
  | [], ts => by show RP ts = 1 * RP ts; grind
  | r :: rs, ts => by show Lr r * RP (rs ++ ts) = Lr r * RP rs * RP ts; rw [RP_append rs ts]; grind
theorem RP_perm {rs ts : List Rat} (h : rs.Perm ts) : RP rs = RP ts := by
  induction h with
  | nil => rfl
  | cons r _ ih => show Lr r * RP _ = Lr r * RP _; rw [ih]
  | swap r s l => show Lr s * (Lr r * RP l) = Lr r * (Lr s * RP l); grind
  | trans _ _ h1 h2 => rw [h1, h2]
theorem RP_ne : ∀ rs : List Rat, RP rs ≠ 0
  | [] => Dg.one.ne
  | r :: rs => fun z => by
    rcases dom (show Lr r * RP rs = 0 from z) with h | h
    · exact Lr_ne r h
    · exact RP_ne rs h
theorem RP_dg : ∀ rs : List Rat, Dg rs.length (RP rs)
  | [] => Dg.one
  | r :: rs => by
    rw [List.length_cons, Nat.add_comm]
    exact (Dg.Lr r).mul (RP_dg rs)
theorem RP_count (r : Rat) : ∀ rs : List Rat, ∃ w, RP rs = Lr r ^ (rs.count r) * w ∧ Ev r w ≠ 0
  | [] => ⟨1, by
    have e0 : (Lr r) ^ 0 = (1 : Pq) := rfl
    rw [List.count_nil, e0]; show (1 : Pq) = 1 * 1; grind, by rw [Ev_one]; grind⟩
  | s :: rs => by
    obtain ⟨w, e, hw⟩ := RP_count r rs
    by_cases h : s = r
    · subst h
      refine ⟨w, ?_, hw⟩
      have e1 : (Lr s) ^ (rs.count s + 1) = Lr s ^ rs.count s * Lr s := rfl
      rw [List.count_cons_self, e1]
      show Lr s * RP rs = _
      rw [e]; grind
    · refine ⟨Lr s * w, ?_, ?_⟩
      · rw [List.count_cons_of_ne h]
        show Lr s * RP rs = _
        rw [e]; grind
      · rw [Ev_mul, Ev_Lr]
        have : r - s ≠ 0 := fun z => h (by grind)
        grind
theorem mult_uniq {r : Rat} : ∀ (m k : Nat) {w v : Pq}, Lr r ^ m * w = Lr r ^ k * v → Ev r w ≠ 0 → Ev r v ≠ 0 → m = k
  | 0, 0, _, _, _, _, _ => rfl
  | 0, k + 1, w, v, h, hw, _ => by
    have e0 : (Lr r) ^ 0 = (1 : Pq) := rfl
    have := congrArg (Ev r) h
    rw [e0, Ev_mul, Ev_mul, Ev_pow_zero, Ev_one] at this
    exact absurd (by grind) hw
  | m + 1, 0, w, v, h, _, hv => by
    have e0 : (Lr r) ^ 0 = (1 : Pq) := rfl
    have := congrArg (Ev r) h
    rw [e0, Ev_mul, Ev_mul, Ev_pow_zero, Ev_one] at this
    exact absurd (by grind) hv
  | m + 1, k + 1, w, v, h, hw, hv => by
    have e1 : (Lr r) ^ (m + 1) = Lr r ^ m * Lr r := rfl
    have e2 : (Lr r) ^ (k + 1) = Lr r ^ k * Lr r := rfl
    have : Lr r ^ m * w = Lr r ^ k * v := by
      apply cancel (Lr_ne r)
      rw [e1, e2] at h
      grind
    rw [mult_uniq m k this hw hv]
/-- the roots of p, with repeats, ascending -/
structure RootsOf (p : Pq) (rs : List Rat) : Prop where
  so : rs.Pairwise (· ≤ ·)
  ex : ∃ h, p = RP rs * h ∧ ∀ r, Ev r h ≠ 0
theorem RootsOf.ne {p : Pq} {rs : List Rat} (h : RootsOf p rs) : p ≠ 0 := by
  obtain ⟨w, rfl, hw⟩ := h.ex
  intro z
  rcases dom z with z | z
  · exact RP_ne rs z
  · exact hw 0 (by rw [z, Ev_zero])
theorem sorted_uniq : ∀ {rs ts : List Rat}, rs.Perm ts → rs.Pairwise (· ≤ ·) → ts.Pairwise (· ≤ ·) → rs = ts
  | [], ts, h, _, _ => (List.nil_perm.mp h).symm
  | r :: rs, [], h, _, _ => by cases List.perm_nil.mp h
  | r :: rs, t :: ts, h, h1, h2 => by
    obtain ⟨a1, a2⟩ := List.pairwise_cons.mp h1
    obtain ⟨b1, b2⟩ := List.pairwise_cons.mp h2
    have e : r = t := by
      have i1 : r ∈ t :: ts := h.mem_iff.mp (List.mem_cons_self ..)
      have i2 : t ∈ r :: rs := h.mem_iff.mpr (List.mem_cons_self ..)
      rcases List.mem_cons.mp i1 with e | e
      · exact e
      · rcases List.mem_cons.mp i2 with e' | e'
        · exact e'.symm
        · have := b1 r e
          have := a1 t e'
          grind
    subst e
    rw [sorted_uniq (List.perm_cons _ |>.mp h) a2 b2]
theorem RootsOf.uniq {p : Pq} {rs ts : List Rat} (h : RootsOf p rs) (h' : RootsOf p ts) : rs = ts := by
  refine sorted_uniq (List.perm_iff_count.mpr fun r => ?_) h.so h'.so
  obtain ⟨w, e, hw⟩ := h.ex
  obtain ⟨w', e', hw'⟩ := h'.ex
  obtain ⟨v, f, hv⟩ := RP_count r rs
  obtain ⟨v', f', hv'⟩ := RP_count r ts
  refine mult_uniq (r := r) _ _ (w := v * w) (v := v' * w') ?_ ?_ ?_
  · have : RP rs * w = RP ts * w' := by rw [← e, ← e']
    rw [f, f'] at this
    grind
  · rw [Ev_mul]; have := hw r; grind
  · rw [Ev_mul]; have := hw' r; grind
theorem Ev_RP_zero {r : Rat} {rs : List Rat} (h : r ∈ rs) : Ev r (RP rs) = 0 := by
  induction rs with
  | nil => cases h
  | cons s rs ih =>
    show Ev r (Lr s * RP rs) = 0
    rw [Ev_mul, Ev_Lr]
    rcases List.mem_cons.mp h with e | e
    · subst e; grind
    · rw [ih e]; grind
theorem RootsOf.mem {p : Pq} {rs : List Rat} (h : RootsOf p rs) (r : Rat) : r ∈ rs ↔ Ev r p = 0 := by
  obtain ⟨w, rfl, hw⟩ := h.ex
  constructor
  · intro hr; rw [Ev_mul, Ev_RP_zero hr]; grind
  · intro hz
    rw [Ev_mul] at hz
    have := hw r
    have z : Ev r (RP rs) = 0 := by grind
    apply Classical.byContradiction
    intro hn
    obtain ⟨v, e, hv⟩ := RP_count r rs
    have e0 : (Lr r) ^ 0 = (1 : Pq) := rfl
    rw [List.count_eq_zero_of_not_mem hn, e0] at e
    rw [e, Ev_mul, Ev_one] at z
    grind
/-! ### integers -/
abbrev rc (W : List Int) : List Rat := W.map fun z : Int => ((z : Int) : Rat)
theorem ev_rc (x : Int) : ∀ W : List Int, ev (x : Rat) (rc W) = ((ev x W : Int) : Rat)
  | [] => rfl
  | w :: W => by
    show (w : Rat) + (x : Rat) * ev (x : Rat) (rc W) = ((w + x * ev x W : Int) : Rat)
    rw [ev_rc x W, Rat.intCast_add, Rat.intCast_mul]
theorem padd_rc : ∀ l m : List Int, padd (rc l) (rc m) = rc (padd l m)
  | [], m => rfl
  | a :: l, [] => rfl
  | a :: l, b :: m => by
    show ((a : Rat) + b) :: padd (rc l) (rc m) = ((a + b : Int) : Rat) :: rc (padd l m)
    rw [padd_rc l m, Rat.intCast_add]
theorem der_rc : ∀ l : List Int, der (rc l) = rc (der l)
  | [] => rfl
  | a :: l => by
    show padd (rc l) (0 :: der (rc l)) = rc (padd l (0 :: der l))
    rw [der_rc l, ← padd_rc]; rfl
theorem denom_ex : ∀ l : List Rat, ∃ (D : Int) (z : List Int), D ≠ 0 ∧ rc z = psc (D : Rat) l
  | [] => ⟨1, [], by decide, rfl⟩
  | r :: l => by
    obtain ⟨D, z, hD, e⟩ := denom_ex l
    refine ⟨D * r.den, (D * r.num) :: z.map (· * (r.den : Int)), Int.mul_ne_zero hD (by have := r.den_nz; omega), ?_⟩
    have hr := rat_num r
    show ((D * r.num : Int) : Rat) :: rc (z.map (· * (r.den : Int))) = ((D * r.den : Int) : Rat) * r :: psc ((D * r.den : Int) : Rat) l
    congr 1
    · rw [Rat.intCast_mul, Rat.intCast_mul, hr]; grind
    · have e1 : rc (z.map (· * (r.den : Int))) = psc (((r.den : Int)) : Rat) (rc z) := by
        unfold rc psc
        rw [List.map_map, List.map_map]
        congr 1
        funext u
        show ((u * (r.den : Int) : Int) : Rat) = ((r.den : Int) : Rat) * (u : Rat)
        rw [Rat.intCast_mul]; grind
      rw [e1, e]
      unfold psc
      rw [List.map_map]
      congr 1
      funext u
      show ((r.den : Int) : Rat) * ((D : Rat) * u) = ((D * r.den : Int) : Rat) * u
      rw [Rat.intCast_mul]; grind
/-- both values have no great divisor together -/
theorem bez {W : List Int} {c : Rat} {s a b : Pq} (hs : s = Po.C c * po (rc W)) (h : 1 = a * s + b * Dr s) : ∃ N : Int, N ≠ 0 ∧ ∀ x : Int, ∃ A B : Int, N = A * ev x W + B * ev x (der W) := by
  obtain ⟨la, _, ha⟩ : ∃ la : List Rat, True ∧ Po.C c * a = po la := Po.ind (p := fun p => ∃ la : List Rat, True ∧ p = po la) (fun l => ⟨l, trivial, rfl⟩) _
  obtain ⟨lb, _, hb⟩ : ∃ la : List Rat, True ∧ Po.C c * b = po la := Po.ind (p := fun p => ∃ la : List Rat, True ∧ p = po la) (fun l => ⟨l, trivial, rfl⟩) _
  obtain ⟨D, za, hD, ea⟩ := denom_ex la
  obtain ⟨D', zb, hD', eb⟩ := denom_ex lb
  have k : (1 : Pq) = po la * po (rc W) + po lb * po (rc (der W)) := by
    rw [← ha, ← hb, ← der_rc, ← Dr_po]
    rw [hs, Dr_Cm] at h
    grind
  refine ⟨D * D', Int.mul_ne_zero hD hD', fun x => ⟨D' * ev x za, D * ev x zb, ?_⟩⟩
  have e1 : Ev (x : Rat) (po la) * D = ((ev x za : Int) : Rat) := by
    rw [← ev_rc, ea]
    show ev (x : Rat) la * (D : Rat) = at_ id (x : Rat) (psc (D : Rat) la)
    rw [at_psc (RHid Rat)]
    show ev (x : Rat) la * (D : Rat) = (D : Rat) * ev (x : Rat) la
    grind
  have e2 : Ev (x : Rat) (po lb) * D' = ((ev x zb : Int) : Rat) := by
    rw [← ev_rc, eb]
    show ev (x : Rat) lb * (D' : Rat) = at_ id (x : Rat) (psc (D' : Rat) lb)
    rw [at_psc (RHid Rat)]
    show ev (x : Rat) lb * (D' : Rat) = (D' : Rat) * ev (x : Rat) lb
    grind
  have k2 := congrArg (Ev (x : Rat)) k
  rw [Ev_add, Ev_mul, Ev_mul, Ev_one] at k2
  have k3 : (1 : Rat) = ev (x : Rat) la * ev (x : Rat) (rc W) + ev (x : Rat) lb * ev (x : Rat) (rc (der W)) := k2
  rw [ev_rc, ev_rc] at k3
  have e1 : ev (x : Rat) la * D = ((ev x za : Int) : Rat) := e1
  have e2 : ev (x : Rat) lb * D' = ((ev x zb : Int) : Rat) := e2
  clear k2
  apply rcast_inj
  rw [Rat.intCast_mul, Rat.intCast_add, Rat.intCast_mul, Rat.intCast_mul, Rat.intCast_mul, Rat.intCast_mul, ← e1, ← e2]
  grind
/-- primes without end -/
theorem primes (n : Nat) : ∃ p, Pr p ∧ n < p := by
  have fac : ∀ n : Nat, ∃ f : Nat, 1 ≤ f ∧ ∀ k, 1 ≤ k → k ≤ n → k ∣ f := by
    intro n
    induction n with
    | zero => exact ⟨1, by omega, fun k h1 h2 => by omega⟩
    | succ n ih =>
      obtain ⟨f, h1, h2⟩ := ih
      refine ⟨f * (n + 1), Nat.mul_pos h1 (by omega), fun k k1 k2 => ?_⟩
      by_cases e : k = n + 1
      · rw [e]; exact Nat.dvd_mul_left ..
      · exact Nat.dvd_trans (h2 k k1 (by omega)) (Nat.dvd_mul_right ..)
  obtain ⟨f, h1, h2⟩ := fac n
  obtain ⟨p, hp, hd⟩ := exPr (f + 1) (by omega)
  refine ⟨p, hp, ?_⟩
  rcases Nat.lt_or_ge n p with k | k
  · exact k
  · have d2 := h2 p (by have := hp.1; omega) k
    have : p ∣ 1 := (Nat.dvd_add_right d2).mp hd
    have := Nat.le_of_dvd (by omega) this
    have := hp.1
    omega
/-! ### roots by a modulus -/
theorem ev_congr {m x y : Int} (W : List Int) (h : m ∣ x - y) : m ∣ ev x W - ev y W := by
  obtain ⟨k, e⟩ := taylor y (x - y) W
  have : y + (x - y) = x := by omega
  rw [this] at e
  rw [e]
  obtain ⟨t, ht⟩ := h
  refine ⟨t * ev y (der W) + t * (x - y) * k, ?_⟩
  rw [ht]; grind
theorem hensel {W : List Int} {x u m : Int} (h : m ∣ ev x W) (hu : m * m ∣ u * ev x (der W) - 1) : m * m ∣ ev (x - ev x W * u) W := by
  obtain ⟨k, e⟩ := taylor x (-(ev x W * u)) W
  have e1 : x + -(ev x W * u) = x - ev x W * u := by omega
  rw [e1] at e
  obtain ⟨a, ha⟩ := h
  obtain ⟨b, hb⟩ := hu
  refine ⟨-(ev x W * b) + a * a * u * u * k, ?_⟩
  rw [e]
  have : u * ev x (der W) = m * m * b + 1 := by omega
  have h2 : ev x W + -(ev x W * u) * ev x (der W) + -(ev x W * u) * -(ev x W * u) * k = ev x W - ev x W * (u * ev x (der W)) + ev x W * ev x W * (u * u * k) := by grind
  rw [h2, this]
  have h3 : ev x W * ev x W = m * m * (a * a) := by rw [ha]; grind
  rw [h3]; grind
theorem cop_dvd {p : Nat} (hp : Pr p) {u h : Int} (k : Nat) (hu : ¬ (p : Int) ∣ u) (hd : ((p ^ k : Nat) : Int) ∣ u * h) : ((p ^ k : Nat) : Int) ∣ h := by
  have h1 : p ^ k ∣ u.natAbs * h.natAbs := by
    rw [← Int.natAbs_mul]
    have := Int.natAbs_dvd_natAbs.mpr hd
    simpa using this
  have c : Nat.Coprime (p ^ k) u.natAbs := by
    refine Nat.Coprime.pow_left k (hp.cop fun z => hu ?_)
    have : ((p : Nat) : Int) ∣ ((u.natAbs : Nat) : Int) := Int.natCast_dvd_natCast.mpr z
    exact Int.dvd_natAbs.mp this
  have := c.dvd_of_dvd_mul_left h1
  exact Int.dvd_natAbs.mp (Int.natCast_dvd_natCast.mpr this)
theorem hensel_uniq {W : List Int} {p : Nat} (hp : Pr p) {x y : Int} {k : Nat} (h1 : ((p ^ k : Nat) : Int) ∣ ev x W) (h2 : ((p ^ k : Nat) : Int) ∣ ev y W) (h : (p : Int) ∣ x - y) (hd : ¬ (p : Int) ∣ ev x (der W)) : ((p ^ k : Nat) : Int) ∣ x - y := by
  obtain ⟨t, e⟩ := taylor y (x - y) W
  have e0 : y + (x - y) = x := by omega
  rw [e0] at e
  have e1 : ev x W - ev y W = (ev y (der W) + (x - y) * t) * (x - y) := by rw [e]; grind
  refine cop_dvd hp k (u := ev y (der W) + (x - y) * t) (fun z => hd ?_) (by rw [← e1]; exact Int.dvd_sub h1 h2)
  have c := ev_congr (der W) h
  obtain ⟨a, ha⟩ := h
  have : (p : Int) ∣ (x - y) * t := ⟨a * t, by rw [ha]; grind⟩
  have z2 := Int.dvd_sub z this
  have e3 : ev y (der W) + (x - y) * t - (x - y) * t = ev y (der W) := by omega
  rw [e3] at z2
  have := Int.dvd_add c z2
  have e4 : ev x (der W) - ev y (der W) + ev y (der W) = ev x (der W) := by omega
  rwa [e4] at this
/-- the value at a / b, times a power of b -/
def Hm (a b : Int) : List Int → Int
  | [] => 0
  | w :: l => w * b ^ l.length + a * Hm a b l
theorem Hm_ev {r : Rat} : ∀ W : List Int, ev r (rc W) * ((r.den : Int) : Rat) ^ (W.length - 1) = ((Hm r.num r.den W : Int) : Rat) ∨ W = []
  | [] => .inr rfl
  | w :: l => .inl (by
    show ((w : Rat) + r * ev r (rc l)) * ((r.den : Int) : Rat) ^ (l.length + 1 - 1) = ((w * (r.den : Int) ^ l.length + r.num * Hm r.num r.den l : Int) : Rat)
    rw [Nat.add_sub_cancel, Rat.intCast_add, Rat.intCast_mul, Rat.intCast_mul, Rat.intCast_pow]
    rcases Hm_ev (r := r) l with h | h
    · cases l with
      | nil =>
        show ((w : Rat) + r * 0) * _ = _ + (r.num : Rat) * ((0 : Int) : Rat)
        have : ((0 : Int) : Rat) = 0 := rfl
        rw [this]; grind
      | cons v l =>
        rw [← h, rat_num r]
        have e : (v :: l).length - 1 = l.length := rfl
        rw [e, List.length_cons, Rat.pow_succ]
        grind
    · subst h
      show ((w : Rat) + r * 0) * _ = _ + (r.num : Rat) * ((0 : Int) : Rat)
      have : ((0 : Int) : Rat) = 0 := rfl
      rw [this]; grind)
theorem Hm_snoc (a b z : Int) : ∀ l : List Int, Hm a b (l ++ [z]) = b * Hm a b l + z * a ^ l.length
  | [] => by show z * b ^ 0 + a * 0 = b * 0 + z * a ^ 0; simp
  | w :: l => by
    show w * b ^ (l ++ [z]).length + a * Hm a b (l ++ [z]) = b * (w * b ^ l.length + a * Hm a b l) + z * a ^ (l.length + 1)
    rw [Hm_snoc a b z l, List.length_append, List.length_singleton, Int.pow_succ, Int.pow_succ]
    grind
theorem num_den_cop (r : Rat) : Nat.Coprime r.num.natAbs r.den := r.reduced
theorem dvd_of_cop {a b c : Int} (h : Nat.Coprime a.natAbs b.natAbs) (hd : a ∣ c * b) : a ∣ c := by
  have h1 : a.natAbs ∣ c.natAbs * b.natAbs := by rw [← Int.natAbs_mul]; exact Int.natAbs_dvd_natAbs.mpr hd
  exact Int.natAbs_dvd_natAbs.mp (h.dvd_of_dvd_mul_right h1)
theorem natAbs_powI (a : Int) : ∀ n : Nat, (a ^ n).natAbs = a.natAbs ^ n
  | 0 => by simp
  | n + 1 => by rw [Int.pow_succ, Int.natAbs_mul, natAbs_powI a n, Nat.pow_succ]
/-- a root's top divides the first integer, its bottom the last -/
theorem root_divs {r : Rat} {W : List Int} {w z : Int} {l m : List Int} (h1 : W = w :: l) (h2 : W = m ++ [z]) (h : ev r (rc W) = 0) : r.num ∣ w ∧ (r.den : Int) ∣ z ∧ Hm r.num r.den W = 0 := by
  have hz : Hm r.num r.den W = 0 := by
    rcases Hm_ev (r := r) W with e | e
    · rw [h] at e
      apply rcast_inj
      rw [← e]
      have : ((0 : Int) : Rat) = 0 := rfl
      rw [this]; grind
    · rw [e] at h1; cases h1
  refine ⟨?_, ?_, hz⟩
  · have e : w * (r.den : Int) ^ l.length + r.num * Hm r.num r.den l = 0 := by rw [h1] at hz; exact hz
    have : r.num ∣ w * (r.den : Int) ^ l.length := ⟨-Hm r.num r.den l, by rw [Int.mul_neg]; omega⟩
    refine dvd_of_cop ?_ this
    rw [natAbs_powI]
    exact Nat.Coprime.pow_right _ (num_den_cop r)
  · rw [h2, Hm_snoc] at hz
    have : (r.den : Int) ∣ z * r.num ^ m.length := ⟨-Hm r.num r.den m, by rw [Int.mul_neg]; omega⟩
    refine dvd_of_cop ?_ this
    rw [natAbs_powI]
    exact Nat.Coprime.pow_right _ (num_den_cop r).symm
theorem Hm_congr {M b y : Int} : ∀ W : List Int, W ≠ [] → Hm (b * y) b W = b ^ (W.length - 1) * ev y W
  | [], h => absurd rfl h
  | [w], _ => by show w * b ^ 0 + b * y * 0 = b ^ 0 * (w + y * 0); simp
  | w :: v :: l, _ => by
    show w * b ^ (v :: l).length + b * y * Hm (b * y) b (v :: l) = b ^ ((v :: l).length + 1 - 1) * (w + y * ev y (v :: l))
    rw [Hm_congr (M := M) (v :: l) (by simp)]
    have e : (v :: l).length - 1 = l.length := rfl
    rw [e, Nat.add_sub_cancel, List.length_cons, Int.pow_succ]
    grind
theorem Hm_cong2 {M a a' b : Int} (h : M ∣ a - a') : ∀ W : List Int, M ∣ Hm a b W - Hm a' b W
  | [] => by show M ∣ (0 : Int) - 0; exact ⟨0, by simp⟩
  | w :: l => by
    obtain ⟨s, hs⟩ := h
    obtain ⟨t, ht⟩ := Hm_cong2 ⟨s, hs⟩ (b := b) l
    refine ⟨s * Hm a b l + a' * t, ?_⟩
    show (w * b ^ l.length + a * Hm a b l) - (w * b ^ l.length + a' * Hm a' b l) = _
    have : a = a' + M * s := by omega
    have h3 : Hm a' b l = Hm a b l - M * t := by omega
    rw [h3, this]; grind
theorem bezN (m n : Nat) : ∃ u v : Int, ((Nat.gcd m n : Nat) : Int) = m * u + n * v := by
  induction m, n using Nat.gcd.induction with
  | H0 n => exact ⟨0, 1, by rw [Nat.gcd_zero_left]; simp⟩
  | H1 m n hm ih =>
    obtain ⟨u, v, e⟩ := ih
    refine ⟨v - ((n / m : Nat) : Int) * u, u, ?_⟩
    rw [Nat.gcd_rec, e]
    have : ((n : Nat) : Int) = (m : Int) * ((n / m : Nat) : Int) + ((n % m : Nat) : Int) := by
      have := Nat.div_add_mod n m
      rw [← Int.natCast_mul, ← Int.natCast_add, this]
    generalize ((n / m : Nat) : Int) = Q at *
    generalize ((n % m : Nat) : Int) = S at *
    rw [this]; grind
/-- what a number by a modulus is divided by -/
theorem inv_ex {p : Nat} (hp : Pr p) (k : Nat) {b : Int} (hb : ¬ (p : Int) ∣ b) (a : Int) : ∃ y : Int, ((p ^ k : Nat) : Int) ∣ b * y - a := by
  have c : Nat.Coprime (p ^ k) b.natAbs := by
    refine Nat.Coprime.pow_left k (hp.cop fun z => hb ?_)
    exact Int.dvd_natAbs.mp (Int.natCast_dvd_natCast.mpr z)
  obtain ⟨u, v, e⟩ := bezN (p ^ k) b.natAbs
  have e1 : ((Nat.gcd (p ^ k) b.natAbs : Nat) : Int) = 1 := by rw [c]; rfl
  rw [e1] at e
  obtain ⟨s, hs⟩ : ∃ s : Int, (b.natAbs : Int) = b * s := by
    rcases Int.natAbs_eq b with h | h
    · exact ⟨1, by omega⟩
    · exact ⟨-1, by omega⟩
  rw [hs] at e
  generalize ((p ^ k : Nat) : Int) = M at *
  exact ⟨s * v * a, -(u * a), by grind⟩
end DN

/-! DN14: a table of primes; one of them does not divide a number that is not too great. -/
namespace DN
def smallP : List Nat := [2, 3, 5, 7, 11, 13, 17, 19, 23, 29, 31, 37, 41, 43, 47, 53, 59, 61, 67, 71, 73, 79, 83, 89, 97]
def isPb (n : Nat) : Bool := smallP.all fun k => n % k != 0 || n == k
def PL : List Nat := (List.range 10000).filter fun n => decide (3 ≤ n) && isPb n
theorem small_ok : (List.range 101).all (fun p => decide (p < 2) || smallP.contains p || (List.range p).any fun d => decide (2 ≤ d) && p % d == 0) = true := by decide +kernel
theorem small_mem {p : Nat} (h : Pr p) (hp : p < 101) : p ∈ smallP := by
  have := List.all_eq_true.mp small_ok p (List.mem_range.mpr hp)
  simp only [Bool.or_eq_true, decide_eq_true_eq, List.any_eq_true, Bool.and_eq_true, List.mem_range, beq_iff_eq] at this
  rcases this with (z | z) | ⟨d, hd, h2, h3⟩
  · have := h.1; omega
  · simpa using z
  · rcases h.2 d (Nat.dvd_of_mod_eq_zero h3) with e | e <;> omega
theorem isPb_ok {n : Nat} (h2 : 2 ≤ n) (hn : n < 10000) (h : isPb n = true) : Pr n := by
  apply Classical.byContradiction
  intro hp
  obtain ⟨m, hm⟩ : ∃ m, m ∣ n ∧ m ≠ 1 ∧ m ≠ n := by
    apply Classical.byContradiction
    intro hc
    refine hp ⟨h2, fun m hm => ?_⟩
    apply Classical.byContradiction
    intro hm2
    exact hc ⟨m, hm, fun e => hm2 (.inl e), fun e => hm2 (.inr e)⟩
  obtain ⟨⟨k, hk⟩, m1, mn⟩ := hm
  have m0 : m ≠ 0 := fun z => by rw [z] at hk; omega
  have k0 : k ≠ 0 := fun z => by rw [z] at hk; omega
  have k1 : k ≠ 1 := fun z => by rw [z] at hk; omega
  have key : ∀ d, 2 ≤ d → d ∣ n → d < 101 → d ≠ n → False := fun d d2 dn d1 dne => by
    obtain ⟨p, pp, pd⟩ := exPr d d2
    have ple := Nat.le_of_dvd (by omega) pd
    have hs := small_mem pp (by omega)
    have := List.all_eq_true.mp h p hs
    have hdvd := Nat.dvd_trans pd dn
    have dle := Nat.le_of_dvd (by omega) dn
    simp only [Bool.or_eq_true, bne_iff_ne, beq_iff_eq, ne_eq] at this
    rcases this with z | z
    · exact z (Nat.mod_eq_zero_of_dvd hdvd)
    · omega
  rcases Nat.lt_or_ge m 101 with z | z
  · exact key m (by omega) ⟨k, hk⟩ z mn
  · rcases Nat.lt_or_ge k 101 with y | y
    · refine key k (by omega) ⟨m, by rw [hk, Nat.mul_comm]⟩ y fun e => ?_
      rw [e] at hk
      have : n * 101 ≤ n * m := Nat.mul_le_mul_left _ z
      rw [Nat.mul_comm n m, ← hk] at this
      omega
    · have : 101 * 101 ≤ m * k := Nat.mul_le_mul z y
      omega
theorem PL_ok {p : Nat} (h : p ∈ PL) : Pr p ∧ 3 ≤ p ∧ p < 10000 := by
  obtain ⟨h1, h2⟩ := List.mem_filter.mp h
  rw [Bool.and_eq_true, decide_eq_true_eq] at h2
  have := List.mem_range.mp h1
  exact ⟨isPb_ok (by omega) this h2.2, h2.1, this⟩
def prodN : List Nat → Nat
  | [] => 1
  | p :: l => p * prodN l
theorem PL_great : decide (2 ^ 13300 < prodN PL) = true := by decide +kernel
theorem PL_nodup : PL.Nodup := List.Pairwise.filter _ List.nodup_range
theorem prod_dvd {M : Nat} : ∀ l : List Nat, l.Nodup → (∀ p ∈ l, Pr p) → (∀ p ∈ l, p ∣ M) → prodN l ∣ M
  | [], _, _, _ => Nat.one_dvd M
  | p :: l, hn, hp, hd => by
    obtain ⟨n1, n2⟩ := List.nodup_cons.mp hn
    have ih := prod_dvd l n2 (fun r hr => hp r (List.mem_cons_of_mem _ hr)) fun r hr => hd r (List.mem_cons_of_mem _ hr)
    have np : ∀ l : List Nat, p ∉ l → (∀ r ∈ l, Pr r) → ¬ p ∣ prodN l := by
      intro l
      induction l with
      | nil =>
        intro _ _ z
        have := Nat.le_of_dvd (by decide) z
        have := (hp p (List.mem_cons_self ..)).1
        have : prodN [] = 1 := rfl
        omega
      | cons r l ih =>
        intro h1 h2 z
        rcases (hp p (List.mem_cons_self ..)).mul z with y | y
        · rcases (h2 r (List.mem_cons_self ..)).2 p y with e | e
          · have := (hp p (List.mem_cons_self ..)).1; omega
          · exact h1 (by rw [e]; exact List.mem_cons_self ..)
        · exact ih (fun w => h1 (List.mem_cons_of_mem _ w)) (fun s hs => h2 s (List.mem_cons_of_mem _ hs)) y
    have c : Nat.Coprime p (prodN l) := (hp p (List.mem_cons_self ..)).cop (np l n1 fun r hr => hp r (List.mem_cons_of_mem _ hr))
    exact c.mul_dvd_of_dvd_of_dvd (hd p (List.mem_cons_self ..)) ih
theorem prime_free {M : Nat} (h0 : M ≠ 0) (h : M ≤ 2 ^ 13300) : ∃ p ∈ PL, ¬ p ∣ M := by
  apply Classical.byContradiction
  intro hc
  have : prodN PL ∣ M := prod_dvd PL PL_nodup (fun p hp => (PL_ok hp).1) fun p hp => by
    apply Classical.byContradiction
    intro hd
    exact hc ⟨p, hp, hd⟩
  have h1 := Nat.le_of_dvd (by omega) this
  have h2 := of_decide_eq_true PL_great
  omega
end DN

namespace K00
open PySem PySem.Spec PyProof.Rows L2 DL
def top (i : Nat) : Stmt := (PySem.Challenge.rw_twicestep_k00_errors_by_position_and_by).prog.main.body.getD i (.Pass ⟨0, 0, 0, 0⟩)
abbrev FnP (K : PySem.W.Frag) (x : Str) (st : Stmt) (dvs : List V) (f : Addr) (fd : FuncData) : Prop := FunD K x x (defArgs st) (defBody st) (defScope st) dvs [] f fd
abbrev errL : List Str := ["BadParameter", "BadNumber", "OtherRoot", "BadPolynomial", "BadRule", "BadPlace", "BadCount", "BadFormula", "NoFormula", "BadClass", "BadGrowth", "BadLine", "ZeroMiddle", "BadShift", "BadFactor"]
abbrev clsL : List Str := ["StepError", "BadNumber", "OtherRoot", "BadPolynomial", "BadRule", "BadPlace", "BadCount", "BadFormula", "NoFormula", "BadClass", "BadGrowth", "BadLine", "ZeroMiddle", "BadShift", "BadFactor", "BadParameter"]
structure Txt (K : PySem.W.Frag) (mg : Str → Option Value) : Prop where
  n_ArithmeticError : mg "ArithmeticError" = none
  n_AttributeError : mg "AttributeError" = none
  n_Exception : mg "Exception" = none
  n_LookupError : mg "LookupError" = none
  n_RuntimeError : mg "RuntimeError" = none
  n_TypeError : mg "TypeError" = none
  n_ValueError : mg "ValueError" = none
  n_dict : mg "dict" = none
  n_enumerate : mg "enumerate" = none
  n_int : mg "int" = none
  n_isinstance : mg "isinstance" = none
  n_len : mg "len" = none
  n_list : mg "list" = none
  n_max : mg "max" = none
  n_range : mg "range" = none
  n_repr : mg "repr" = none
  n_tuple : mg "tuple" = none
  err : ∀ n ∈ errL, ErrF K mg n
  exm : ∀ n ∈ errL, ∀ c ∈ clsL, PySem.W.exmOne K (.ref (He.ga K n)) (.ref (He.ga K c)) = some (isErr n c) ∧ PySem.W.kitOne K (.ref (He.ga K n)) (.ref (He.ga K c)) = some (isErr n c)
  cg : ∀ c ∈ clsL, mg c = some (.ref (He.ga K c))
  bx : ∀ n ∈ errL, PySem.W.kitOne K (.ref (He.ga K n)) (.type "Exception") = some true
  bq : ∀ n ∈ errL, PySem.W.kitAny K (.ref (He.ga K n)) (List.map Value.type ["ValueError", "TypeError", "LookupError", "ArithmeticError", "RuntimeError", "AttributeError"]) = some false
theorem sci_BadParameter : FnScope ["self", "thing"] ["self", "thing"] (defScope (metOf (top 16))) := ⟨rfl, rfl, rfl, by decide +kernel, rfl, by decide +kernel, by decide +kernel⟩
theorem sci_BadNumber : FnScope ["self", "thing"] ["self", "thing"] (defScope (metOf (top 2))) := ⟨rfl, rfl, rfl, by decide +kernel, rfl, by decide +kernel, by decide +kernel⟩
theorem sci_OtherRoot : FnScope ["self", "thing"] ["self", "thing"] (defScope (metOf (top 3))) := ⟨rfl, rfl, rfl, by decide +kernel, rfl, by decide +kernel, by decide +kernel⟩
theorem sci_BadPolynomial : FnScope ["self", "thing"] ["self", "thing"] (defScope (metOf (top 4))) := ⟨rfl, rfl, rfl, by decide +kernel, rfl, by decide +kernel, by decide +kernel⟩
theorem sci_BadRule : FnScope ["self", "thing"] ["self", "thing"] (defScope (metOf (top 5))) := ⟨rfl, rfl, rfl, by decide +kernel, rfl, by decide +kernel, by decide +kernel⟩
theorem sci_BadPlace : FnScope ["self", "thing"] ["self", "thing"] (defScope (metOf (top 6))) := ⟨rfl, rfl, rfl, by decide +kernel, rfl, by decide +kernel, by decide +kernel⟩
theorem sci_BadCount : FnScope ["self", "thing"] ["self", "thing"] (defScope (metOf (top 7))) := ⟨rfl, rfl, rfl, by decide +kernel, rfl, by decide +kernel, by decide +kernel⟩
theorem sci_BadFormula : FnScope ["self", "thing"] ["self", "thing"] (defScope (metOf (top 8))) := ⟨rfl, rfl, rfl, by decide +kernel, rfl, by decide +kernel, by decide +kernel⟩
theorem sci_NoFormula : FnScope ["self", "thing"] ["self", "thing"] (defScope (metOf (top 9))) := ⟨rfl, rfl, rfl, by decide +kernel, rfl, by decide +kernel, by decide +kernel⟩
theorem sci_BadClass : FnScope ["self", "thing"] ["self", "thing"] (defScope (metOf (top 10))) := ⟨rfl, rfl, rfl, by decide +kernel, rfl, by decide +kernel, by decide +kernel⟩
theorem sci_BadGrowth : FnScope ["self", "thing"] ["self", "thing"] (defScope (metOf (top 11))) := ⟨rfl, rfl, rfl, by decide +kernel, rfl, by decide +kernel, by decide +kernel⟩
theorem sci_BadLine : FnScope ["self", "thing"] ["self", "thing"] (defScope (metOf (top 12))) := ⟨rfl, rfl, rfl, by decide +kernel, rfl, by decide +kernel, by decide +kernel⟩
theorem sci_ZeroMiddle : FnScope ["self", "thing"] ["self", "thing"] (defScope (metOf (top 13))) := ⟨rfl, rfl, rfl, by decide +kernel, rfl, by decide +kernel, by decide +kernel⟩
theorem sci_BadShift : FnScope ["self", "thing"] ["self", "thing"] (defScope (metOf (top 14))) := ⟨rfl, rfl, rfl, by decide +kernel, rfl, by decide +kernel, by decide +kernel⟩
theorem sci_BadFactor : FnScope ["self", "thing"] ["self", "thing"] (defScope (metOf (top 15))) := ⟨rfl, rfl, rfl, by decide +kernel, rfl, by decide +kernel, by decide +kernel⟩
abbrev N__law_deck : List Str := ["script", "seed", "mixed", "cell"]
abbrev p__law_deck : List Str := ["script", "seed"]
theorem sc__law_deck : FnScope N__law_deck p__law_deck (defScope (top 18)) := ⟨rfl, rfl, rfl, by decide +kernel, rfl, by decide +kernel, by decide +kernel⟩
abbrev N__law_draw : List Str := ["deck", "many", "cell", "figure"]
abbrev p__law_draw : List Str := ["deck", "many"]
theorem sc__law_draw : FnScope N__law_draw p__law_draw (defScope (top 19)) := ⟨rfl, rfl, rfl, by decide +kernel, rfl, by decide +kernel, by decide +kernel⟩
abbrev N__law_pick : List Str := ["deck", "some"]
abbrev p__law_pick : List Str := ["deck", "some"]
theorem sc__law_pick : FnScope N__law_pick p__law_pick (defScope (top 20)) := ⟨rfl, rfl, rfl, by decide +kernel, rfl, by decide +kernel, by decide +kernel⟩
abbrev N__law_any : List Str := ["deck", "deep", "way", "some", "turn"]
abbrev p__law_any : List Str := ["deck", "deep"]
theorem sc__law_any : FnScope N__law_any p__law_any (defScope (top 21)) := ⟨rfl, rfl, rfl, by decide +kernel, rfl, by decide +kernel, by decide +kernel⟩
abbrev N__law_is_same : List Str := ["near", "far", "at", "it", "key"]
abbrev p__law_is_same : List Str := ["near", "far"]
theorem sc__law_is_same : FnScope N__law_is_same p__law_is_same (defScope (top 22)) := ⟨rfl, rfl, rfl, by decide +kernel, rfl, by decide +kernel, by decide +kernel⟩
abbrev N__law_by_position : List Str := ["it", "found"]
abbrev p__law_by_position : List Str := ["it"]
theorem sc__law_by_position : FnScope N__law_by_position p__law_by_position (defScope (top 23)) := ⟨rfl, rfl, rfl, by decide +kernel, rfl, by decide +kernel, by decide +kernel⟩
abbrev N__law_by_name : List Str := ["it", "found"]
abbrev p__law_by_name : List Str := ["it"]
theorem sc__law_by_name : FnScope N__law_by_name p__law_by_name (defScope (top 24)) := ⟨rfl, rfl, rfl, by decide +kernel, rfl, by decide +kernel, by decide +kernel⟩
abbrev N__law_carried : List Str := ["made", "found"]
abbrev p__law_carried : List Str := ["made"]
theorem sc__law_carried : FnScope N__law_carried p__law_carried (defScope (top 25)) := ⟨rfl, rfl, rfl, by decide +kernel, rfl, by decide +kernel, by decide +kernel⟩
abbrev N__law_kinds : List Str := ["error", "found"]
abbrev p__law_kinds : List Str := ["error"]
theorem sc__law_kinds : FnScope N__law_kinds p__law_kinds (defScope (top 26)) := ⟨rfl, rfl, rfl, by decide +kernel, rfl, by decide +kernel, by decide +kernel⟩
abbrev p__law_kindsE : List Str := p__law_kinds
abbrev N__law_is_own : List Str := ["at", "error", "place"]
abbrev p__law_is_own : List Str := ["at", "error"]
theorem sc__law_is_own : FnScope N__law_is_own p__law_is_own (defScope (top 27)) := ⟨rfl, rfl, rfl, by decide +kernel, rfl, by decide +kernel, by decide +kernel⟩
abbrev N__law_raise : List Str := ["way", "it"]
abbrev p__law_raise : List Str := ["way", "it"]
theorem sc__law_raise : FnScope N__law_raise p__law_raise (defScope (top 28)) := ⟨rfl, rfl, rfl, by decide +kernel, rfl, by decide +kernel, by decide +kernel⟩
abbrev N__law_caught : List Str := ["way", "it", "e"]
abbrev p__law_caught : List Str := ["way", "it"]
theorem sc__law_caught : FnScope N__law_caught p__law_caught (defScope (top 29)) := ⟨rfl, rfl, rfl, by decide +kernel, rfl, by decide +kernel, by decide +kernel⟩
abbrev N__law_caught_as_base : List Str := ["way", "it", "e"]
abbrev p__law_caught_as_base : List Str := ["way", "it"]
theorem sc__law_caught_as_base : FnScope N__law_caught_as_base p__law_caught_as_base (defScope (top 30)) := ⟨rfl, rfl, rfl, by decide +kernel, rfl, by decide +kernel, by decide +kernel⟩
abbrev N_law : List Str := ["script", "deck", "near", "far", "some", "others", "it", "made", "at", "error", "way", "caught", "place"]
abbrev p_law : List Str := ["script"]
theorem sc_law : FnScope N_law p_law (defScope (top 31)) := ⟨rfl, rfl, rfl, by decide +kernel, rfl, by decide +kernel, by decide +kernel⟩
section
variable {P : Program} {w : World} {K : PySem.W.Frag} {mg : Str → Option Value} {base : Heap} {f : Addr} {fd : FuncData} {k : Nat}
theorem ok_deck (F : FnP K "_law_deck" (top 18) [] f fd) (n_int : mg "int" = none) (n_list : mg "list" = none) : FnG P w K mg base CX0 (k + 1) f fd p__law_deck (spDeck2 K "left") := by
  refine okRaw F sc__law_deck (fun vs H Q E h => ?_) fun cdv A outer s H vs Q E hr hG h => ?_
  · obtain ⟨a, ns, z, rfl, _⟩ := h
    rfl
  refine ⟨_, pss_cons (ps_set (i := 2) sc__law_deck.nd rfl (Or.inl rfl) (pv 1) rfl (Or.inl rfl))
    (pss_cons (ps_for PassesOwn.never rfl (pi_list (pe_slice sl_list (pv 0) po_none (po_some pe_int)))
      (pg_name (i := 3) sc__law_deck.nd rfl (Or.inl rfl) (Or.inl rfl))
      (pss_one (ps_set (i := 2) sc__law_deck.nd rfl (Or.inl rfl) (pe_op op_modN (pe_callTy call_int1 rfl n_int (by decide +kernel) (pa_cons (pe_op op_add (pe_op op_add (pe_op op_mulO (pv 2) pe_int) (pe_op op_modN (pe_callTy call_int1 rfl n_int (by decide +kernel) (pa_cons (pv 3) pa_nil)) pe_int)) pe_int) pa_nil)) pe_int) rfl (Or.inl rfl))))
    (pss_one (ps_ret (pe_disp (pps_cons pe_str (pe_revL (pe_callTy call_list_of rfl n_list (by decide +kernel) (pa_cons (pe_slice sl_list (pv 0) po_none (po_some pe_int)) pa_nil))) (pps_cons pe_str (pv 2) (pps_cons pe_str pe_int pps_nil))) rfl rfl (by simp) (by decide))))), ?_⟩
  obtain ⟨a, ns, z, rfl, hz, hS, hl, hq⟩ := h
  obtain ⟨cs, hcs, hcl⟩ := cut_ints ns hl
  refine ⟨_, rfl, _, rfl, _, rfl, _, _, rfl, hS, fun p hp => ?_⟩
  refine ⟨_, rfl, ⟨_, .inl (.inl upd_same)⟩, ?_⟩
  rw [hcs]
  have e1 : Ex H (upd H p (.lst (cs.map V.int))) := upd_ex hp
  refine ⟨fun i m σ H' => m = cs.length - i ∧ i ≤ cs.length ∧ H' = upd H p (.lst (cs.map V.int)) ∧ ∃ mi c, (-(2 ^ 40) < mi ∧ mi < 2 ^ 40) ∧ σ = [some (V.ref a), some (.int z), some (.int mi), c],
    ⟨_, rfl, Nat.zero_le _, rfl, _, none, hz, rfl⟩, ?_⟩
  rintro i m σ H' ⟨rfl, hi, rfl, mi, c, hm, rfl⟩
  by_cases hlt : i < cs.length
  · refine .inr ⟨⟨_, V.int cs[i], .inl (.inl upd_same), by rw [List.getElem?_map, List.getElem?_eq_getElem hlt]; rfl⟩, fun σ2 H2 => ∃ mi c, H2 = upd H p (.lst (cs.map V.int)) ∧ (-(2 ^ 40) < mi ∧ mi < 2 ^ 40) ∧ σ2 = [some (V.ref a), some (.int z), some (.int mi), c], ?_, ?_⟩
    · rintro σ2 H2 ⟨mi, c, rfl, h1, rfl⟩
      exact ⟨_, Nat.sub_lt_sub_left hlt (Nat.lt_succ_self i), rfl, hlt, rfl, mi, c, h1, rfl⟩
    · rintro x H2 ⟨rfl, hx⟩
      have hx1 := hx (cs.map V.int) (.inl (.inl upd_same))
      rw [List.getElem?_map, List.getElem?_eq_getElem hlt] at hx1
      cases hx1
      refine ⟨_, rfl, _, _, rfl, rfl, IntMulOk.of_right (intBits_le_64 (by decide) (by decide)), _, rfl, .inl ⟨_, rfl, _, _, rfl, rfl, (by decide : (2147483629 : Int) ≠ 0), _, _, rfl, rfl, _, _, rfl, rfl, .inl ⟨_, rfl, _, _, rfl, rfl, (by decide : (2147483563 : Int) ≠ 0), ?_⟩⟩⟩
      exact ⟨_, _, rfl, fmod_small _ (by decide) (by decide), rfl⟩
  · have e : i = cs.length := by omega
    subst e
    refine .inl ⟨⟨_, .inl (.inl upd_same), by rw [List.length_map]; exact Nat.le_refl _⟩, ?_⟩
    intro d hd
    have e2 : Ex (upd H p (.lst (cs.map V.int))) (upd (upd H p (.lst (cs.map V.int))) d (.dK [])) := upd_ex hd
    have e3 := e1.trans e2
    refine ⟨_, rfl, _, rfl, _, _, rfl, e3.sqL hS, fun p2 hp2 => ⟨p2, _, rfl, .inl (.inl (.inl upd_same)), fun p3 hp3 => ⟨_, _, rfl, .inl (.inl upd_same), fun l hl2 => ?_⟩⟩⟩
    rw [hcs, ← List.map_reverse] at *
    have e4 := e2.trans ((upd_ex (o := .lst (cs.map V.int)) hp2).trans ((upd_ex (o := .lst (cs.map V.int)) hp3).trans (upd_ex (o := .lst (cs.reverse.map V.int)) hl2)))
    have e5 : Ex (upd (upd H p (.lst (cs.map V.int))) d (.dK [])) _ := (upd_ex (o := .lst (cs.map V.int)) hp2).trans ((upd_ex (o := .lst (cs.map V.int)) hp3).trans (upd_ex (o := .lst (cs.reverse.map V.int)) hl2))
    have hdd := e5 d _ upd_same
    have nd : H d = none := by
      cases e : H d with
      | none => rfl
      | some o => rw [e1 d o e] at hd; cases hd
    have nl : H l = none := by
      cases e : H l with
      | none => rfl
      | some o =>
        have := ((e3.trans (upd_ex (o := .lst (cs.map V.int)) hp2)).trans (upd_ex (o := .lst (cs.map V.int)) hp3)) l o e
        rw [this] at hl2; cases hl2
    have ndl : d ≠ l := fun z => by
      have := ((upd_ex (o := .lst (cs.map V.int)) hp2).trans (upd_ex (o := .lst (cs.map V.int)) hp3)) d _ (upd_same (o := .dK []))
      subst z
      rw [this] at hl2; cases hl2
    refine ⟨_, rfl, hdd, dkL "left" l mi 0, rfl, (show (3 : Nat) ≤ 15 by decide), hq _ d l ?_ nd nl ?_⟩
    · intro b o hb
      have : b ≠ d := fun z => by rw [z, nd] at hb; cases hb
      rw [upd_ne this]
      exact (e1.trans e4) b o hb
    · refine DeckAt.of (cs := cs.reverse) (mi := mi) (dr := 0) ?_ ?_ (by rw [List.length_reverse]; exact hcl) hm ndl
      · rw [dk_merge (by decide +kernel) (by decide +kernel)]
        exact upd_same
      · rw [upd_ne (Ne.symm ndl)]
        exact upd_same
/-- the end of a draw (the other deck) -/
def drawTail (a1 a2 a3 a4 a5 a6 a7 a8 : Int) : TS := tSeq (tAsg (tOp rModN (tCB rInt1 (tCons (tOp rAddI (tDGet (tVar 0) (tC (.str "mixed"))) (tOp rMulO (tC (.int a1)) (tDGet (tVar 0) (tC (.str "draws"))))) tNil)) (tC (.int a2))) (gName 3))
  (tSeq (tAsg (tOp rModN (tCB rInt1 (tCons (tOp rAddI (tOp rAddI (tOp rMulO (tVar 3) (tVar 3)) (tOp rMulO (tC (.int a3)) (tDGet (tVar 0) (tC (.str "draws"))))) (tC (.int a4))) tNil)) (tC (.int a5))) (gName 3))
  (tSeq (tAsg (tOp rModN (tCB rInt1 (tCons (tOp rAddI (tOp rMulO (tVar 3) (tC (.int a6))) (tC (.int a7))) tNil)) (tC (.int a8))) (gName 3))
  (tRet (tOp rModN (tCB rInt1 (tCons (tOp rDivO (tVar 3) (tC (.int 64))) tNil)) (tVar 1)))))
theorem drawTail_ok {a1 a2 a3 a4 a5 a6 a7 a8 n mi dr : Int} {nm : Str} {d l : Addr} {c e : Option V} {H' : Hp} {Q : VK} (c1 : ¬ nm = "mixed") (c2 : ¬ nm = "draws") (h1 : Builtin.Int.intBits a1 ≤ 64) (h2 : 0 < a2) (h2' : a2 < 2 ^ 40) (h3 : Builtin.Int.intBits a3 ≤ 64) (h5 : 0 < a5) (h6 : Builtin.Int.intBits a6 ≤ 64) (h8 : 0 < a8)
    (n1 : 1 ≤ n) (n2 : n < 1073741824) (g : H' d = some (.dK (dkL nm l mi dr))) (q : ∀ u : Int, 0 ≤ u → u < n → Q (.int u) H') :
    drawTail a1 a2 a3 a4 a5 a6 a7 a8 { nx := fun _ H' => Q .non H', rt := Q } [some (V.ref d), some (.int n), c, e] H' := by
  refine ⟨_, rfl, _, _, rfl, dgetK g (dk_m c1), _, rfl, _, _, rfl, dgetK g (dk_d c2), _, _, rfl, rfl, IntMulOk.of_left h1, _, _, rfl, rfl, .inl ⟨_, rfl, _, _, rfl, rfl, (by omega : a2 ≠ 0), ?_⟩⟩
  have b := fmod_small (mi + a1 * dr) h2 h2'
  refine ⟨_, rfl, _, rfl, _, _, rfl, rfl, IntMulOk.of_left (intBits_le_64 (by omega) (by omega)), _, rfl, _, _, rfl, dgetK g (dk_d c2), _, _, rfl, rfl, IntMulOk.of_left h3, _, _, rfl, rfl, _, _, rfl, rfl, .inl ⟨_, rfl, _, _, rfl, rfl, (by omega : a5 ≠ 0), ?_⟩⟩
  refine ⟨_, rfl, _, _, rfl, rfl, IntMulOk.of_right h6, _, _, rfl, rfl, .inl ⟨_, rfl, _, _, rfl, rfl, (by omega : a8 ≠ 0), ?_⟩⟩
  refine ⟨_, rfl, _, _, rfl, rfl, ⟨by decide, PyProof.noPylong_small (by decide)⟩, .inl ⟨_, rfl, _, rfl, _, _, rfl, rfl, (by omega : n ≠ 0), q _ (Int.fmod_nonneg_of_pos _ (by omega)) (Int.fmod_lt_of_pos _ (by omega))⟩⟩
theorem ok_draw (F : FnP K "_law_draw" (top 19) [] f fd) (n_int : mg "int" = none) (n_max : mg "max" = none) : FnG P w K mg base CX0 (k + 1) f fd p__law_draw (spG K "left" false fnDraw) := by
  refine okRaw F sc__law_draw (fun vs H Q E h => ?_) fun cdv A outer s H vs Q E hr hG h => ?_
  · obtain ⟨d, l, F, ds, q, x, _, h, hf, _⟩ := h
    obtain ⟨n, rfl, _⟩ := hf
    rw [h.length]; rfl
  have hu := hu_of hr
  refine ⟨_, pss_cons (ps_dput (td := tVar 0) (ty := tC (.str "draws")) hu (pv 0) pe_str (pe_op op_add (pe_dget (td := tVar 0) (ty := tC (.str "draws")) hu (pv 0) pe_str (fun _ _ => rfl)) pe_int) rfl)
    (pss_cons (ps_if (pt_cmpR (op_neD hr.units) (pe_dget (td := tVar 0) (ty := tC (.str "left")) hu (pv 0) pe_str (fun _ _ => rfl)) (pe_lst pa_nil) rfl)
      (pss_cons (ps_set (i := 2) sc__law_draw.nd rfl (Or.inl rfl) (pe_bm0 PySem.F.plainAttrs_list PySem.F.slot_list_pop PySem.F.type_list_pop mt_pop (pe_dget (td := tVar 0) (ty := tC (.str "left")) hu (pv 0) pe_str (fun _ _ => rfl))) rfl (Or.inl rfl))
        (pss_cons (ps_if (pt_cmpR op_ge (pv 2) (pe_op op_pow pe_int pe_int) (nomark _))
          (pss_cons (ps_expr (pe_bm PySem.F.plainAttrs_list PySem.F.slot_list_append PySem.F.type_list_append mt_append (pe_dget (td := tVar 0) (ty := tC (.str "left")) hu (pv 0) pe_str (fun _ _ => rfl)) (pa_cons (pe_op op_divO (pv 2) (pe_callB (call_max2 rfl) rfl n_max (by decide +kernel) (pa_cons pe_int (pa_cons (pv 1) pa_nil)))) pa_nil)) rfl)
            (pss_one (ps_ret (pe_op op_modN (pe_callTy call_int1 rfl n_int (by decide +kernel) (pa_cons (pv 2) pa_nil)) (pv 1)))))
          pss_nil)
        (pss_one (ps_dput (td := tVar 0) (ty := tC (.str "mixed")) hu (pv 0) pe_str (pe_op op_modN (pe_callTy call_int1 rfl n_int (by decide +kernel) (pa_cons (pe_op op_add (pe_op op_add (pe_op op_mulO (pe_dget (td := tVar 0) (ty := tC (.str "mixed")) hu (pv 0) pe_str (fun _ _ => rfl)) pe_int) (pe_op op_modN (pe_callTy call_int1 rfl n_int (by decide +kernel) (pa_cons (pv 2) pa_nil)) pe_int)) pe_int) pa_nil)) pe_int) rfl))))
      pss_nil)
    (pss_cons (ps_set (i := 3) sc__law_draw.nd rfl (Or.inl rfl) (pe_op op_modN (pe_callTy call_int1 rfl n_int (by decide +kernel) (pa_cons (pe_op op_add (pe_dget (td := tVar 0) (ty := tC (.str "mixed")) hu (pv 0) pe_str (fun _ _ => rfl)) (pe_op op_mulO pe_int (pe_dget (td := tVar 0) (ty := tC (.str "draws")) hu (pv 0) pe_str (fun _ _ => rfl)))) pa_nil)) pe_int) rfl (Or.inl rfl))
    (pss_cons (ps_set (i := 3) sc__law_draw.nd rfl (Or.inl rfl) (pe_op op_modN (pe_callTy call_int1 rfl n_int (by decide +kernel) (pa_cons (pe_op op_add (pe_op op_add (pe_op op_mulO (pv 3) (pv 3)) (pe_op op_mulO pe_int (pe_dget (td := tVar 0) (ty := tC (.str "draws")) hu (pv 0) pe_str (fun _ _ => rfl)))) pe_int) pa_nil)) pe_int) rfl (Or.inl rfl))
    (pss_cons (ps_set (i := 3) sc__law_draw.nd rfl (Or.inl rfl) (pe_op op_modN (pe_callTy call_int1 rfl n_int (by decide +kernel) (pa_cons (pe_op op_add (pe_op op_mulO (pv 3) pe_int) pe_int) pa_nil)) pe_int) rfl (Or.inl rfl))
    (pss_one (ps_ret (pe_op op_modN (pe_callTy call_int1 rfl n_int (by decide +kernel) (pa_cons (pe_op op_divO (pv 3) pe_int) pa_nil)) (pv 1)))))))), ?_⟩
  obtain ⟨d, l, F, ds, q, x, r, ha, ⟨n, rfl, n1, n2, hd⟩, hq, hx⟩ := h
  obtain ⟨rfl⟩ : vs = [.ref d, .int n] := by
    cases ha with
    | cons a1 a2 => cases a1; cases a2 with
      | cons a3 a4 => cases a3; cases a4; rfl
  obtain ⟨cs, mi, dr, e1, e2, e3, e4, e5⟩ := r.j
  have e1 : H d = some (.dK (dkL "left" l mi dr)) := e1
  have c1 : ¬ (("left" : Str) = "mixed") := by decide +kernel
  have c2 : ¬ (("left" : Str) = "draws") := by decide +kernel
  let H1 := upd H d (.dK (dkL "left" l mi (dr + 1)))
  have f1 : H1 d = some (.dK (dkL "left" l mi (dr + 1))) := upd_same
  have f2 : H1 l = some (.lst (cs.map V.int)) := by rw [← e2]; exact upd_ne (Ne.symm e5)
  refine ⟨_, rfl, _, _, rfl, dgetK e1 (dk_d c2), _, _, rfl, rfl, _, rfl, _, H1, rfl, dputK e1 (show (3 : Nat) < sizeLine by decide) (dk_pd c2), ?_⟩
  have tail : ∀ (c e : Option V) (mi' : Int) (H' : Hp), H' d = some (.dK (dkL "left" l mi' (dr + 1))) → (∀ u : Int, 0 ≤ u → u < n → Q (.int u) H') →
      drawTail 31337 2147483647 48271 11 2147483629 69621 77 2147483563 { nx := fun _ H' => Q .non H', rt := Q } [some (V.ref d), some (.int n), c, e] H' := fun c e mi' H' g1 g2 =>
    drawTail_ok c1 c2 (by decide) (by decide) (by decide) (by decide) (by decide) (by decide) (by decide) n1 n2 g1 g2
  refine ⟨_, rfl, _, _, rfl, dgetK f1 dk_l, by decide, fun p hp => ?_⟩
  let H2 := upd H1 p (.lst [])
  have fe : Ex H1 H2 := upd_ex hp
  have f3 := fe _ _ f1
  have f4 := fe _ _ f2
  have keep : ∀ (cs' : List Int), cs'.length ≤ 63 → DL.Fr (some ("left", d, l)) H F (upd H2 l (.lst (cs'.map V.int))) (DL.tpH (upd H2 l (.lst (cs'.map V.int))) F) := fun cs' h => r.deck (fun b o hb1 hb2 e => by
    rw [upd_ne hb2]
    refine fe _ _ ?_
    rw [show H1 b = H b from upd_ne hb1]
    exact e) (DeckAt.of (by rw [upd_ne e5]; exact f3) upd_same h e4 e5)
  have keep2 : ∀ (cs' : List Int) (mi' : Int), cs'.length ≤ 63 → (-(2 ^ 40) < mi' ∧ mi' < 2 ^ 40) → DL.Fr (some ("left", d, l)) H F (upd (upd H2 l (.lst (cs'.map V.int))) d (.dK (dkL "left" l mi' (dr + 1)))) (DL.tpH (upd (upd H2 l (.lst (cs'.map V.int))) d (.dK (dkL "left" l mi' (dr + 1)))) F) := fun cs' mi' h hm => r.deck (fun b o hb1 hb2 e => by
    rw [upd_ne hb1, upd_ne hb2]
    refine fe _ _ ?_
    rw [show H1 b = H b from upd_ne hb1]
    exact e) (DeckAt.of upd_same (by rw [upd_ne (Ne.symm e5)]; exact upd_same) h hm e5)
  refine ⟨_, _, .lst (.inl (.inl f4)) (pints_dp cs), .lst (.inl (.inl upd_same)) .nil, pints_shaped cs, rfl, ?_⟩
  rcases snoc_cases cs with rfl | ⟨cs, c, rfl⟩
  · refine ⟨_, rfl, Eq.mpr (if_neg (by rw [show PyData.eqv (.list (([] : List Int).map PyData.int)) (.list []) = true from rfl]; decide)) ?_⟩
    exact tail none none mi _ f3 fun u u1 u2 => hq _ _ _ _ (r.deck (fun b o hb1 hb2 e => fe _ _ (by rw [show H1 b = H b from upd_ne hb1]; exact e)) (DeckAt.of f3 f4 e3 e4 e5)) (.int u) (hd u u1 u2)
  · refine ⟨_, rfl, Eq.mpr (if_pos (by rw [show PyData.eqv (.list ((cs ++ [c]).map PyData.int)) (.list []) = false from by cases cs <;> rfl]; rfl)) ?_⟩
    have e6 : ((cs ++ [c]).map V.int).dropLast = cs.map V.int := by rw [List.map_append]; exact List.dropLast_concat
    have e7 : ((cs ++ [c]).map V.int)[((cs ++ [c]).map V.int).length - 1]? = some (V.int c) := by
      rw [List.map_append, List.length_append, List.map_singleton, List.length_singleton, Nat.add_sub_cancel, List.getElem?_append_right (Nat.le_refl _), Nat.sub_self]; rfl
    have e8 : cs.length ≤ 62 := by rw [List.length_append, List.length_singleton] at e3; omega
    refine ⟨_, rfl, _, _, rfl, dgetK f3 dk_l, .inl ⟨rfl, _, .inl (.inl f4)⟩, _, _, _, rfl, rfl, f4, e7, ?_⟩
    rw [e6]
    have g1 : (upd H2 l (.lst (cs.map V.int))) d = some (.dK (dkL "left" l mi (dr + 1))) := by rw [upd_ne e5]; exact f3
    refine ⟨_, rfl, _, _, rfl, rfl, ⟨by decide, by decide, by decide⟩, _, _, rfl, rfl, _, rfl, ?_⟩
    by_cases hc : (10 : Int) ^ (18 : Int).toNat ≤ c
    · refine Eq.mpr (if_pos (decide_eq_true hc)) ?_
      have hm : (if n > 2 then n else 2) ≠ 0 ∧ (if n > 2 then n else 2).natAbs < 1073741824 := by split <;> omega
      refine ⟨_, rfl, _, _, rfl, dgetK g1 dk_l, .inl ⟨rfl, _, .inl (.inl upd_same)⟩, _, rfl, _, rfl, _, _, rfl, _, _, rfl, rfl, ⟨hm.1, PyProof.noPylong_small hm.2⟩, _, _, _, rfl, rfl, upd_same, ?_, ?_⟩
      · rw [List.length_map]; exact Nat.lt_of_le_of_lt e8 (by decide)
      · rw [upd_upd, show cs.map V.int ++ [V.int (c.fdiv (if n > 2 then n else 2))] = (cs ++ [c.fdiv (if n > 2 then n else 2)]).map V.int from by rw [List.map_append]; rfl]
        refine ⟨_, rfl, .inl ⟨_, rfl, _, rfl, _, _, rfl, rfl, (by omega : n ≠ 0), ?_⟩⟩
        exact hq _ _ _ _ (keep _ (by rw [List.length_append, List.length_singleton]; omega)) (.int _) (hd _ (Int.fmod_nonneg_of_pos _ (by omega)) (Int.fmod_lt_of_pos _ (by omega)))
    · refine Eq.mpr (if_neg (by rw [decide_eq_false hc]; exact Bool.false_ne_true)) ?_
      refine ⟨_, rfl, _, _, rfl, dgetK g1 (dk_m c1), _, _, rfl, rfl, IntMulOk.of_right (intBits_le_64 (by decide) (by decide)), _, rfl, .inl ⟨_, rfl, _, _, rfl, rfl, (by decide : (2147483629 : Int) ≠ 0), _, _, rfl, rfl, _, _, rfl, rfl, .inl ⟨_, rfl, _, _, rfl, rfl, (by decide : (2147483587 : Int) ≠ 0), _, rfl, _, _, rfl, dputK g1 (show (3 : Nat) < sizeLine by decide) (dk_pm c1), ?_⟩⟩⟩
      exact tail (some (.int c)) none _ _ upd_same fun u u1 u2 => hq _ _ _ _ (keep2 cs _ (by omega) (fmod_small _ (by decide) (by decide))) (.int u) (hd u u1 u2)
end
abbrev Cal__law_deck (P : Program) (w : World) (K : PySem.W.Frag) (mg : Str → Option Value) (base : Heap) : Prop := Cal P w K mg base 1 "_law_deck" p__law_deck (spDeck2 K "left") [[]] []
abbrev fn__law_draw : Fn := fnDraw
abbrev Cal__law_draw (P : Program) (w : World) (K : PySem.W.Frag) (mg : Str → Option Value) (base : Heap) : Prop := Cal P w K mg base 1 "_law_draw" p__law_draw (spG K "left" false fnDraw) [[]] []
noncomputable def g__law_pick (d : Addr) : FS :=
  (fRet (f2 sIx (fVar 1) (fCallG fn__law_draw d (fCons (fVar 0) (fCons (f1 sLen (fVar 1)) fNil)))))
noncomputable def fn__law_pick : Fn := lock fun ds q x => ds.length = 1 ∧ ∀ d, g__law_pick d (startD 2 (.ref d :: ds)) (entry false q x)
theorem fn__law_pick_eq (ds : List D) (q : D → Prop) (x : XD) : fn__law_pick ds q x = (ds.length = 1 ∧ ∀ d, g__law_pick d (startD 2 (.ref d :: ds)) (entry false q x)) := lock_at _ ds q x
abbrev Cal__law_pick (P : Program) (w : World) (K : PySem.W.Frag) (mg : Str → Option Value) (base : Heap) : Prop := Cal P w K mg base 2 "_law_pick" p__law_pick (spG K "left" false fn__law_pick) [[]] []
noncomputable def g__law_any (rc : Fn) (d : Addr) : FS :=
  (fSeq (fAsg (fCallG fn__law_draw d (fCons (fVar 0) (fCons (fK (.int 10)) fNil))) (fName 2))
  (fSeq (fIfS (fTest (f2 (sCmp lt') (fVar 2) (fK (.int 2))))
  (fRet (fCallG fn__law_pick d (fCons (fVar 0) (fCons (fLst (fCons (fK (.int 0)) (fCons (fK (.int 1)) (fCons (f1 sNeg (fK (.int 1))) (fCons (fK (.int 7)) (fCons (f2 sMul (fK (.int 4)) (f2 sPow (fK (.int 10)) (fK (.int 38)))) (fCons (f1 sNeg (f2 sPow (fK (.int 10)) (fK (.int 20)))) (fCons (fK (.int 2)) (fCons (fK (.int 63)) fNil))))))))) fNil))))
  fSkip)
  (fSeq (fIfS (fTest (f2 (sCmp lt') (fVar 2) (fK (.int 4))))
  (fRet (fCallG fn__law_pick d (fCons (fVar 0) (fCons (fLst (fCons (fK (.str "")) (fCons (fK (.str "a")) (fCons (fK (.str "(0, 1)")) (fCons (fK (.str "1/2")) (fCons (fK (.str "x\ny")) (fCons (fK (.str "~")) fNil))))))) fNil))))
  fSkip)
  (fSeq (fIfS (fTest (f2 (sEq false) (fVar 2) (fK (.int 4))))
  (fRet (fCallG fn__law_pick d (fCons (fVar 0) (fCons (fLst (fCons (fK (.bl true)) (fCons (fK (.bl false)) (fCons (fK .non) fNil)))) fNil))))
  fSkip)
  (fSeq (fAsg (fIf (fTest (f2 (sCmp gt') (fVar 1) (fK (.int 0)))) (fLc (fRg1 (fCallG fn__law_draw d (fCons (fVar 0) (fCons (fK (.int 4)) fNil)))) (fName 4) fYes (fCallG rc d (fCons (fVar 0) (fCons (f2 sSub (fVar 1) (fK (.int 1))) fNil))) [4]) (fLst fNil)) (fName 3))
  (fSeq (fIfS (fTest (f2 (sEq false) (fVar 2) (fK (.int 5))))
  (fRet (fVar 3))
  fSkip)
  (fRet (fIf (fTest (f2 (sEq false) (fVar 2) (fK (.int 6)))) (fDiz [.inr "key", .inl 1] (fCons (fVar 3) (fCons (f1 sLen (fVar 3)) fNil))) (f1 sTuple (fVar 3))))))))))
def fn__law_any_0 : Fn := fun _ _ _ => False
noncomputable def fn__law_any_1 : Fn := lock fun ds q x => ds.length = 1 ∧ ∀ d, g__law_any fn__law_any_0 d (startD 5 (.ref d :: ds)) (entry false q x)
theorem fn__law_any_1_eq (ds : List D) (q : D → Prop) (x : XD) : fn__law_any_1 ds q x = (ds.length = 1 ∧ ∀ d, g__law_any fn__law_any_0 d (startD 5 (.ref d :: ds)) (entry false q x)) := lock_at _ ds q x
noncomputable def fn__law_any_2 : Fn := lock fun ds q x => ds.length = 1 ∧ ∀ d, g__law_any fn__law_any_1 d (startD 5 (.ref d :: ds)) (entry false q x)
theorem fn__law_any_2_eq (ds : List D) (q : D → Prop) (x : XD) : fn__law_any_2 ds q x = (ds.length = 1 ∧ ∀ d, g__law_any fn__law_any_1 d (startD 5 (.ref d :: ds)) (entry false q x)) := lock_at _ ds q x
noncomputable def fn__law_any_3 : Fn := lock fun ds q x => ds.length = 1 ∧ ∀ d, g__law_any fn__law_any_2 d (startD 5 (.ref d :: ds)) (entry false q x)
theorem fn__law_any_3_eq (ds : List D) (q : D → Prop) (x : XD) : fn__law_any_3 ds q x = (ds.length = 1 ∧ ∀ d, g__law_any fn__law_any_2 d (startD 5 (.ref d :: ds)) (entry false q x)) := lock_at _ ds q x
noncomputable def fn__law_any_4 : Fn := lock fun ds q x => ds.length = 1 ∧ ∀ d, g__law_any fn__law_any_3 d (startD 5 (.ref d :: ds)) (entry false q x)
theorem fn__law_any_4_eq (ds : List D) (q : D → Prop) (x : XD) : fn__law_any_4 ds q x = (ds.length = 1 ∧ ∀ d, g__law_any fn__law_any_3 d (startD 5 (.ref d :: ds)) (entry false q x)) := lock_at _ ds q x
noncomputable abbrev fn__law_any : Fn := fn__law_any_4
abbrev Cal__law_any_0 (P : Program) (w : World) (K : PySem.W.Frag) (mg : Str → Option Value) (base : Heap) : Prop := Cal P w K mg base 2 "_law_any" p__law_any (spG K "left" false fn__law_any_0) [[]] []
abbrev Cal__law_any_1 (P : Program) (w : World) (K : PySem.W.Frag) (mg : Str → Option Value) (base : Heap) : Prop := Cal P w K mg base 3 "_law_any" p__law_any (spG K "left" false fn__law_any_1) [[]] []
abbrev Cal__law_any_2 (P : Program) (w : World) (K : PySem.W.Frag) (mg : Str → Option Value) (base : Heap) : Prop := Cal P w K mg base 4 "_law_any" p__law_any (spG K "left" false fn__law_any_2) [[]] []
abbrev Cal__law_any_3 (P : Program) (w : World) (K : PySem.W.Frag) (mg : Str → Option Value) (base : Heap) : Prop := Cal P w K mg base 5 "_law_any" p__law_any (spG K "left" false fn__law_any_3) [[]] []
abbrev Cal__law_any_4 (P : Program) (w : World) (K : PySem.W.Frag) (mg : Str → Option Value) (base : Heap) : Prop := Cal P w K mg base 6 "_law_any" p__law_any (spG K "left" false fn__law_any_4) [[]] []
abbrev Cal__law_any (P : Program) (w : World) (K : PySem.W.Frag) (mg : Str → Option Value) (base : Heap) : Prop := Cal P w K mg base 6 "_law_any" p__law_any (spG K "left" false fn__law_any) [[]] []
noncomputable def g__law_is_same (rc : Fn) : FS :=
  (fSeq (fIfS (fTest (f1 (sIsiT ["list", "tuple"]) (fVar 0)))
  (fSeq (fIfS (gOr (gNot (fTest (f1 (sIsiT ["list", "tuple"]) (fVar 1)))) (fTest (f2 (sEq true) (f1 (sIsi "list") (fVar 0)) (f1 (sIsi "list") (fVar 1)))))
  (fRet (fK (.bl false)))
  fSkip)
  (fRet (hAnd (f2 (sEq false) (f1 sLen (fVar 0)) (f1 sLen (fVar 1))) (f2 (sEq false) (fLc (fEnV 0) (fGtup 2 (fGcons (fName 2) (fGcons (fName 3) fGnil))) (gNot (fTest (fCall rc [] (fCons (fVar 3) (fCons (f2 sIx (fVar 1) (fVar 2)) fNil))))) (fVar 2) [2, 3]) (fLst fNil)))))
  fSkip)
  (fSeq (fIfS (fTest (f1 (sIsi "dict") (fVar 0)))
  (fSeq (fIfS (gOr (gNot (fTest (f1 (sIsi "dict") (fVar 1)))) (fTest (f2 (sEq true) (f1 sLenZ (fVar 0)) (f1 sLenZ (fVar 1)))))
  (fRet (fK (.bl false)))
  fSkip)
  (fRet (f2 (sEq false) (fLc (fKz (fVar 0)) (fName 4) (gOr (fTest (fNotInZ (fVar 4) (fVar 1))) (gNot (fTest (fCall rc [] (fCons (fGetZ (fVar 0) (fVar 4)) (fCons (fGetZ (fVar 1) (fVar 4)) fNil)))))) (fVar 4) [4]) (fLst fNil))))
  fSkip)
  (fRet (hAnd (hNot (f1 (sIsiT ["list", "tuple", "dict"]) (fVar 1))) (f2 (sEq false) (f1 sReprZ (fVar 0)) (f1 sReprZ (fVar 1)))))))
def fn__law_is_same_0 : Fn := fun _ _ _ => False
noncomputable def fn__law_is_same_1 : Fn := lock fun ds q x => ds.length = 2 ∧ g__law_is_same fn__law_is_same_0 (startD 5 ds) (entry false q x)
theorem fn__law_is_same_1_eq (ds : List D) (q : D → Prop) (x : XD) : fn__law_is_same_1 ds q x = (ds.length = 2 ∧ g__law_is_same fn__law_is_same_0 (startD 5 ds) (entry false q x)) := lock_at _ ds q x
noncomputable def fn__law_is_same_2 : Fn := lock fun ds q x => ds.length = 2 ∧ g__law_is_same fn__law_is_same_1 (startD 5 ds) (entry false q x)
theorem fn__law_is_same_2_eq (ds : List D) (q : D → Prop) (x : XD) : fn__law_is_same_2 ds q x = (ds.length = 2 ∧ g__law_is_same fn__law_is_same_1 (startD 5 ds) (entry false q x)) := lock_at _ ds q x
noncomputable def fn__law_is_same_3 : Fn := lock fun ds q x => ds.length = 2 ∧ g__law_is_same fn__law_is_same_2 (startD 5 ds) (entry false q x)
theorem fn__law_is_same_3_eq (ds : List D) (q : D → Prop) (x : XD) : fn__law_is_same_3 ds q x = (ds.length = 2 ∧ g__law_is_same fn__law_is_same_2 (startD 5 ds) (entry false q x)) := lock_at _ ds q x
noncomputable def fn__law_is_same_4 : Fn := lock fun ds q x => ds.length = 2 ∧ g__law_is_same fn__law_is_same_3 (startD 5 ds) (entry false q x)
theorem fn__law_is_same_4_eq (ds : List D) (q : D → Prop) (x : XD) : fn__law_is_same_4 ds q x = (ds.length = 2 ∧ g__law_is_same fn__law_is_same_3 (startD 5 ds) (entry false q x)) := lock_at _ ds q x
noncomputable def fn__law_is_same_5 : Fn := lock fun ds q x => ds.length = 2 ∧ g__law_is_same fn__law_is_same_4 (startD 5 ds) (entry false q x)
theorem fn__law_is_same_5_eq (ds : List D) (q : D → Prop) (x : XD) : fn__law_is_same_5 ds q x = (ds.length = 2 ∧ g__law_is_same fn__law_is_same_4 (startD 5 ds) (entry false q x)) := lock_at _ ds q x
noncomputable def fn__law_is_same_6 : Fn := lock fun ds q x => ds.length = 2 ∧ g__law_is_same fn__law_is_same_5 (startD 5 ds) (entry false q x)
theorem fn__law_is_same_6_eq (ds : List D) (q : D → Prop) (x : XD) : fn__law_is_same_6 ds q x = (ds.length = 2 ∧ g__law_is_same fn__law_is_same_5 (startD 5 ds) (entry false q x)) := lock_at _ ds q x
noncomputable def fn__law_is_same_7 : Fn := lock fun ds q x => ds.length = 2 ∧ g__law_is_same fn__law_is_same_6 (startD 5 ds) (entry false q x)
theorem fn__law_is_same_7_eq (ds : List D) (q : D → Prop) (x : XD) : fn__law_is_same_7 ds q x = (ds.length = 2 ∧ g__law_is_same fn__law_is_same_6 (startD 5 ds) (entry false q x)) := lock_at _ ds q x
noncomputable def fn__law_is_same_8 : Fn := lock fun ds q x => ds.length = 2 ∧ g__law_is_same fn__law_is_same_7 (startD 5 ds) (entry false q x)
theorem fn__law_is_same_8_eq (ds : List D) (q : D → Prop) (x : XD) : fn__law_is_same_8 ds q x = (ds.length = 2 ∧ g__law_is_same fn__law_is_same_7 (startD 5 ds) (entry false q x)) := lock_at _ ds q x
noncomputable def fn__law_is_same_9 : Fn := lock fun ds q x => ds.length = 2 ∧ g__law_is_same fn__law_is_same_8 (startD 5 ds) (entry false q x)
theorem fn__law_is_same_9_eq (ds : List D) (q : D → Prop) (x : XD) : fn__law_is_same_9 ds q x = (ds.length = 2 ∧ g__law_is_same fn__law_is_same_8 (startD 5 ds) (entry false q x)) := lock_at _ ds q x
noncomputable abbrev fn__law_is_same : Fn := fn__law_is_same_9
abbrev Cal__law_is_same_0 (P : Program) (w : World) (K : PySem.W.Frag) (mg : Str → Option Value) (base : Heap) : Prop := Cal P w K mg base 0 "_law_is_same" p__law_is_same (spN K false fn__law_is_same_0) [[]] []
abbrev Cal__law_is_same_1 (P : Program) (w : World) (K : PySem.W.Frag) (mg : Str → Option Value) (base : Heap) : Prop := Cal P w K mg base 1 "_law_is_same" p__law_is_same (spN K false fn__law_is_same_1) [[]] []
abbrev Cal__law_is_same_2 (P : Program) (w : World) (K : PySem.W.Frag) (mg : Str → Option Value) (base : Heap) : Prop := Cal P w K mg base 2 "_law_is_same" p__law_is_same (spN K false fn__law_is_same_2) [[]] []
abbrev Cal__law_is_same_3 (P : Program) (w : World) (K : PySem.W.Frag) (mg : Str → Option Value) (base : Heap) : Prop := Cal P w K mg base 3 "_law_is_same" p__law_is_same (spN K false fn__law_is_same_3) [[]] []
abbrev Cal__law_is_same_4 (P : Program) (w : World) (K : PySem.W.Frag) (mg : Str → Option Value) (base : Heap) : Prop := Cal P w K mg base 4 "_law_is_same" p__law_is_same (spN K false fn__law_is_same_4) [[]] []
abbrev Cal__law_is_same_5 (P : Program) (w : World) (K : PySem.W.Frag) (mg : Str → Option Value) (base : Heap) : Prop := Cal P w K mg base 5 "_law_is_same" p__law_is_same (spN K false fn__law_is_same_5) [[]] []
abbrev Cal__law_is_same_6 (P : Program) (w : World) (K : PySem.W.Frag) (mg : Str → Option Value) (base : Heap) : Prop := Cal P w K mg base 6 "_law_is_same" p__law_is_same (spN K false fn__law_is_same_6) [[]] []
abbrev Cal__law_is_same_7 (P : Program) (w : World) (K : PySem.W.Frag) (mg : Str → Option Value) (base : Heap) : Prop := Cal P w K mg base 7 "_law_is_same" p__law_is_same (spN K false fn__law_is_same_7) [[]] []
abbrev Cal__law_is_same_8 (P : Program) (w : World) (K : PySem.W.Frag) (mg : Str → Option Value) (base : Heap) : Prop := Cal P w K mg base 8 "_law_is_same" p__law_is_same (spN K false fn__law_is_same_8) [[]] []
abbrev Cal__law_is_same_9 (P : Program) (w : World) (K : PySem.W.Frag) (mg : Str → Option Value) (base : Heap) : Prop := Cal P w K mg base 9 "_law_is_same" p__law_is_same (spN K false fn__law_is_same_9) [[]] []
abbrev Cal__law_is_same (P : Program) (w : World) (K : PySem.W.Frag) (mg : Str → Option Value) (base : Heap) : Prop := Cal P w K mg base 9 "_law_is_same" p__law_is_same (spN K false fn__law_is_same) [[]] []
noncomputable def g__law_by_position : FS :=
  (fSeq (fAsg (fLst (fCons (fErr "BadNumber" (fVar 0)) (fCons (fErr "OtherRoot" (fVar 0)) (fCons (fErr "BadPolynomial" (fVar 0)) (fCons (fErr "BadRule" (fVar 0)) (fCons (fErr "BadPlace" (fVar 0)) (fCons (fErr "BadCount" (fVar 0)) (fCons (fErr "BadFormula" (fVar 0)) fNil)))))))) (fName 1))
  (fSeq (fAsg (f2 sAdd (fVar 1) (fLst (fCons (fErr "NoFormula" (fVar 0)) (fCons (fErr "BadClass" (fVar 0)) (fCons (fErr "BadGrowth" (fVar 0)) (fCons (fErr "BadLine" (fVar 0)) (fCons (fErr "ZeroMiddle" (fVar 0)) (fCons (fErr "BadShift" (fVar 0)) fNil)))))))) (fName 1))
  (fRet (f2 sAdd (fVar 1) (fLst (fCons (fErr "BadFactor" (fVar 0)) (fCons (fErr "BadParameter" (fVar 0)) fNil)))))))
noncomputable def fn__law_by_position : Fn := lock fun ds q x => ds.length = 1 ∧ g__law_by_position (startD 2 ds) (entry false q x)
theorem fn__law_by_position_eq (ds : List D) (q : D → Prop) (x : XD) : fn__law_by_position ds q x = (ds.length = 1 ∧ g__law_by_position (startD 2 ds) (entry false q x)) := lock_at _ ds q x
abbrev Cal__law_by_position (P : Program) (w : World) (K : PySem.W.Frag) (mg : Str → Option Value) (base : Heap) : Prop := Cal P w K mg base 3 "_law_by_position" p__law_by_position (spN K false fn__law_by_position) [[]] []
noncomputable def g__law_by_name : FS :=
  (fSeq (fAsg (fLst (fCons (fErrK "BadNumber" (fCons (fVar 0) fNil)) (fCons (fErrK "OtherRoot" (fCons (fVar 0) fNil)) (fCons (fErrK "BadPolynomial" (fCons (fVar 0) fNil)) (fCons (fErrK "BadRule" (fCons (fVar 0) fNil)) (fCons (fErrK "BadPlace" (fCons (fVar 0) fNil)) fNil)))))) (fName 1))
  (fSeq (fAsg (f2 sAdd (fVar 1) (fLst (fCons (fErrK "BadCount" (fCons (fVar 0) fNil)) (fCons (fErrK "BadFormula" (fCons (fVar 0) fNil)) (fCons (fErrK "NoFormula" (fCons (fVar 0) fNil)) (fCons (fErrK "BadClass" (fCons (fVar 0) fNil)) fNil)))))) (fName 1))
  (fSeq (fAsg (f2 sAdd (fVar 1) (fLst (fCons (fErrK "BadGrowth" (fCons (fVar 0) fNil)) (fCons (fErrK "BadLine" (fCons (fVar 0) fNil)) (fCons (fErrK "ZeroMiddle" (fCons (fVar 0) fNil)) (fCons (fErrK "BadShift" (fCons (fVar 0) fNil)) fNil)))))) (fName 1))
  (fRet (f2 sAdd (fVar 1) (fLst (fCons (fErrK "BadFactor" (fCons (fVar 0) fNil)) (fCons (fErrK "BadParameter" (fCons (fVar 0) fNil)) fNil))))))))
noncomputable def fn__law_by_name : Fn := lock fun ds q x => ds.length = 1 ∧ g__law_by_name (startD 2 ds) (entry false q x)
theorem fn__law_by_name_eq (ds : List D) (q : D → Prop) (x : XD) : fn__law_by_name ds q x = (ds.length = 1 ∧ g__law_by_name (startD 2 ds) (entry false q x)) := lock_at _ ds q x
abbrev Cal__law_by_name (P : Program) (w : World) (K : PySem.W.Frag) (mg : Str → Option Value) (base : Heap) : Prop := Cal P w K mg base 3 "_law_by_name" p__law_by_name (spN K false fn__law_by_name) [[]] []
noncomputable def g__law_carried : FS :=
  (fSeq (fAsg (fLst (fCons (f1 (sThing errL) (f2 sIx (fVar 0) (fK (.int 0)))) (fCons (f1 (sThing errL) (f2 sIx (fVar 0) (fK (.int 1)))) (fCons (f1 (sThing errL) (f2 sIx (fVar 0) (fK (.int 2)))) (fCons (f1 (sThing errL) (f2 sIx (fVar 0) (fK (.int 3)))) (fCons (f1 (sThing errL) (f2 sIx (fVar 0) (fK (.int 4)))) (fCons (f1 (sThing errL) (f2 sIx (fVar 0) (fK (.int 5)))) (fCons (f1 (sThing errL) (f2 sIx (fVar 0) (fK (.int 6)))) fNil)))))))) (fName 1))
  (fSeq (fAsg (f2 sAdd (fVar 1) (fLst (fCons (f1 (sThing errL) (f2 sIx (fVar 0) (fK (.int 7)))) (fCons (f1 (sThing errL) (f2 sIx (fVar 0) (fK (.int 8)))) (fCons (f1 (sThing errL) (f2 sIx (fVar 0) (fK (.int 9)))) (fCons (f1 (sThing errL) (f2 sIx (fVar 0) (fK (.int 10)))) (fCons (f1 (sThing errL) (f2 sIx (fVar 0) (fK (.int 11)))) (fCons (f1 (sThing errL) (f2 sIx (fVar 0) (fK (.int 12)))) fNil)))))))) (fName 1))
  (fRet (f2 sAdd (fVar 1) (fLst (fCons (f1 (sThing errL) (f2 sIx (fVar 0) (fK (.int 13)))) (fCons (f1 (sThing errL) (f2 sIx (fVar 0) (fK (.int 14)))) fNil)))))))
noncomputable def fn__law_carried : Fn := lock fun ds q x => ds.length = 1 ∧ g__law_carried (startD 2 ds) (entry false q x)
theorem fn__law_carried_eq (ds : List D) (q : D → Prop) (x : XD) : fn__law_carried ds q x = (ds.length = 1 ∧ g__law_carried (startD 2 ds) (entry false q x)) := lock_at _ ds q x
abbrev Cal__law_carried (P : Program) (w : World) (K : PySem.W.Frag) (mg : Str → Option Value) (base : Heap) : Prop := Cal P w K mg base 1 "_law_carried" p__law_carried (spN K false fn__law_carried) [[]] []
noncomputable def g__law_kinds : FS :=
  (fSeq (fAsg (fLst (fCons (f1 (sIsa errL (fun n => isErr n "BadNumber")) (fVar 0)) (fCons (f1 (sIsa errL (fun n => isErr n "OtherRoot")) (fVar 0)) (fCons (f1 (sIsa errL (fun n => isErr n "BadPolynomial")) (fVar 0)) fNil)))) (fName 1))
  (fSeq (fAsg (f2 sAdd (fVar 1) (fLst (fCons (f1 (sIsa errL (fun n => isErr n "BadRule")) (fVar 0)) (fCons (f1 (sIsa errL (fun n => isErr n "BadPlace")) (fVar 0)) (fCons (f1 (sIsa errL (fun n => isErr n "BadCount")) (fVar 0)) fNil))))) (fName 1))
  (fSeq (fAsg (f2 sAdd (fVar 1) (fLst (fCons (f1 (sIsa errL (fun n => isErr n "BadFormula")) (fVar 0)) (fCons (f1 (sIsa errL (fun n => isErr n "NoFormula")) (fVar 0)) (fCons (f1 (sIsa errL (fun n => isErr n "BadClass")) (fVar 0)) fNil))))) (fName 1))
  (fSeq (fAsg (f2 sAdd (fVar 1) (fLst (fCons (f1 (sIsa errL (fun n => isErr n "BadGrowth")) (fVar 0)) (fCons (f1 (sIsa errL (fun n => isErr n "BadLine")) (fVar 0)) (fCons (f1 (sIsa errL (fun n => isErr n "ZeroMiddle")) (fVar 0)) fNil))))) (fName 1))
  (fRet (f2 sAdd (fVar 1) (fLst (fCons (f1 (sIsa errL (fun n => isErr n "BadShift")) (fVar 0)) (fCons (f1 (sIsa errL (fun n => isErr n "BadFactor")) (fVar 0)) (fCons (f1 (sIsa errL (fun n => isErr n "BadParameter")) (fVar 0)) fNil))))))))))
noncomputable def fn__law_kinds : Fn := lock fun ds q x => ds.length = 1 ∧ g__law_kinds (startD 2 ds) (entry false q x)
theorem fn__law_kinds_eq (ds : List D) (q : D → Prop) (x : XD) : fn__law_kinds ds q x = (ds.length = 1 ∧ g__law_kinds (startD 2 ds) (entry false q x)) := lock_at _ ds q x
abbrev Cal__law_kinds (P : Program) (w : World) (K : PySem.W.Frag) (mg : Str → Option Value) (base : Heap) : Prop := Cal P w K mg base 1 "_law_kinds" p__law_kinds (spN K false fn__law_kinds) [[]] []
noncomputable def g__law_kindsE (n : Str) (a : Addr) : FS :=
  (fSeq (fAsg (fLst (fCons (fIsaE 0 a (isErr n "BadNumber")) (fCons (fIsaE 0 a (isErr n "OtherRoot")) (fCons (fIsaE 0 a (isErr n "BadPolynomial")) fNil)))) (fName 1))
  (fSeq (fAsg (f2 sAdd (fVar 1) (fLst (fCons (fIsaE 0 a (isErr n "BadRule")) (fCons (fIsaE 0 a (isErr n "BadPlace")) (fCons (fIsaE 0 a (isErr n "BadCount")) fNil))))) (fName 1))
  (fSeq (fAsg (f2 sAdd (fVar 1) (fLst (fCons (fIsaE 0 a (isErr n "BadFormula")) (fCons (fIsaE 0 a (isErr n "NoFormula")) (fCons (fIsaE 0 a (isErr n "BadClass")) fNil))))) (fName 1))
  (fSeq (fAsg (f2 sAdd (fVar 1) (fLst (fCons (fIsaE 0 a (isErr n "BadGrowth")) (fCons (fIsaE 0 a (isErr n "BadLine")) (fCons (fIsaE 0 a (isErr n "ZeroMiddle")) fNil))))) (fName 1))
  (fRet (f2 sAdd (fVar 1) (fLst (fCons (fIsaE 0 a (isErr n "BadShift")) (fCons (fIsaE 0 a (isErr n "BadFactor")) (fCons (fIsaE 0 a (isErr n "BadParameter")) fNil))))))))))
def hv__law_kindsE (n : Str) : D := .lst [.bl (isErr n "BadNumber"), .bl (isErr n "OtherRoot"), .bl (isErr n "BadPolynomial"), .bl (isErr n "BadRule"), .bl (isErr n "BadPlace"), .bl (isErr n "BadCount"), .bl (isErr n "BadFormula"), .bl (isErr n "NoFormula"), .bl (isErr n "BadClass"), .bl (isErr n "BadGrowth"), .bl (isErr n "BadLine"), .bl (isErr n "ZeroMiddle"), .bl (isErr n "BadShift"), .bl (isErr n "BadFactor"), .bl (isErr n "BadParameter")]
theorem hvp__law_kindsE (n : Str) (a : Addr) : g__law_kindsE n a (startD 2 [.ref a]) (entry false (fun r => r = hv__law_kindsE n) x0) := by
  unfold g__law_kindsE hv__law_kindsE; repeat (first | refine And.intro ?_ ?_ | rfl | exact Nat.le_of_ble_eq_true rfl | decide)
abbrev Cal__law_kindsE (P : Program) (w : World) (K : PySem.W.Frag) (mg : Str → Option Value) (base : Heap) : Prop := CalE P w K mg base 1 "_law_kinds" p__law_kindsE errL hv__law_kindsE [[]] []
noncomputable def g__law_is_own : FS :=
  (fSeq (fIfS (gOr (gNot (fTest (f1 (sIsa errL (fun n => isErr n "StepError")) (fVar 1)))) (gNot (fTest (f1 (sIsa errL (fun _ => true)) (fVar 1)))))
  (fRet (fK (.bl false)))
  fSkip)
  (fSeq (fIfS (fTest (f1 (sIsa errL (fun _ => false)) (fVar 1)))
  (fRet (fK (.bl false)))
  fSkip)
  (fRet (f2 (sEq false) (fCall fn__law_kinds [] (fCons (fVar 1) fNil)) (fLc (fRg1 (fK (.int 15))) (fName 2) fYes (f2 (sEq false) (fVar 2) (fVar 0)) [2])))))
noncomputable def fn__law_is_own : Fn := lock fun ds q x => ds.length = 2 ∧ g__law_is_own (startD 3 ds) (entry false q x)
theorem fn__law_is_own_eq (ds : List D) (q : D → Prop) (x : XD) : fn__law_is_own ds q x = (ds.length = 2 ∧ g__law_is_own (startD 3 ds) (entry false q x)) := lock_at _ ds q x
abbrev Cal__law_is_own (P : Program) (w : World) (K : PySem.W.Frag) (mg : Str → Option Value) (base : Heap) : Prop := Cal P w K mg base 2 "_law_is_own" p__law_is_own (spN K false fn__law_is_own) [[]] []
noncomputable def g__law_raise : FS :=
  (fSeq (fIfS (fTest (f2 (sEq false) (fVar 0) (fK (.int 0))))
  (fRaise "BadNumber" (fVar 1))
  fSkip)
  (fSeq (fIfS (fTest (f2 (sEq false) (fVar 0) (fK (.int 1))))
  (fRaiseK "OtherRoot" (fCons (fVar 1) fNil))
  fSkip)
  (fSeq (fIfS (fTest (f2 (sEq false) (fVar 0) (fK (.int 2))))
  (fRaise "BadPolynomial" (fVar 1))
  fSkip)
  (fSeq (fIfS (fTest (f2 (sEq false) (fVar 0) (fK (.int 3))))
  (fRaiseK "BadRule" (fCons (fVar 1) fNil))
  fSkip)
  (fSeq (fIfS (fTest (f2 (sEq false) (fVar 0) (fK (.int 4))))
  (fRaise "BadPlace" (fVar 1))
  fSkip)
  (fSeq (fIfS (fTest (f2 (sEq false) (fVar 0) (fK (.int 5))))
  (fRaiseK "BadCount" (fCons (fVar 1) fNil))
  fSkip)
  (fSeq (fIfS (fTest (f2 (sEq false) (fVar 0) (fK (.int 6))))
  (fRaise "BadFormula" (fVar 1))
  fSkip)
  (fSeq (fIfS (fTest (f2 (sEq false) (fVar 0) (fK (.int 7))))
  (fRaiseK "NoFormula" (fCons (fVar 1) fNil))
  fSkip)
  (fSeq (fIfS (fTest (f2 (sEq false) (fVar 0) (fK (.int 8))))
  (fRaise "BadClass" (fVar 1))
  fSkip)
  (fSeq (fIfS (fTest (f2 (sEq false) (fVar 0) (fK (.int 9))))
  (fRaiseK "BadGrowth" (fCons (fVar 1) fNil))
  fSkip)
  (fSeq (fIfS (fTest (f2 (sEq false) (fVar 0) (fK (.int 10))))
  (fRaise "BadLine" (fVar 1))
  fSkip)
  (fSeq (fIfS (fTest (f2 (sEq false) (fVar 0) (fK (.int 11))))
  (fRaiseK "ZeroMiddle" (fCons (fVar 1) fNil))
  fSkip)
  (fSeq (fIfS (fTest (f2 (sEq false) (fVar 0) (fK (.int 12))))
  (fRaise "BadShift" (fVar 1))
  fSkip)
  (fSeq (fIfS (fTest (f2 (sEq false) (fVar 0) (fK (.int 13))))
  (fRaiseK "BadFactor" (fCons (fVar 1) fNil))
  fSkip)
  (fRaise "BadParameter" (fVar 1))))))))))))))))
noncomputable def fn__law_raise : Fn := lock fun ds q x => ds.length = 2 ∧ g__law_raise (startD 2 ds) (entry false q x)
theorem fn__law_raise_eq (ds : List D) (q : D → Prop) (x : XD) : fn__law_raise ds q x = (ds.length = 2 ∧ g__law_raise (startD 2 ds) (entry false q x)) := lock_at _ ds q x
abbrev Cal__law_raise (P : Program) (w : World) (K : PySem.W.Frag) (mg : Str → Option Value) (base : Heap) : Prop := CalX P w K mg base 3 "_law_raise" p__law_raise (spN K false fn__law_raise) [[]] []
noncomputable def g__law_caught : FS :=
  (fSeq (fTry errL (fDrop (fCall fn__law_raise [] (fCons (fVar 0) (fCons (fVar 1) fNil)))) [(fun n => isErr n "NoFormula", fun n t => (.tup [(.int 7), t])), (fun n => isErr n "BadNumber", fun n t => (.tup [(.int 0), t])), (fun n => isErr n "ZeroMiddle", fun n t => (.tup [(.int 11), t])), (fun n => isErr n "BadRule", fun n t => (.tup [(.int 3), t])), (fun n => isErr n "BadParameter", fun n t => (.tup [(.int 14), t])), (fun n => isErr n "OtherRoot", fun n t => (.tup [(.int 1), t])), (fun n => isErr n "BadGrowth", fun n t => (.tup [(.int 9), t])), (fun n => isErr n "BadCount", fun n t => (.tup [(.int 5), t])), (fun n => isErr n "BadFactor", fun n t => (.tup [(.int 13), t])), (fun n => isErr n "BadPolynomial", fun n t => (.tup [(.int 2), t])), (fun n => isErr n "BadShift", fun n t => (.tup [(.int 12), t])), (fun n => isErr n "BadPlace", fun n t => (.tup [(.int 4), t])), (fun n => isErr n "BadClass", fun n t => (.tup [(.int 8), t])), (fun n => isErr n "BadFormula", fun n t => (.tup [(.int 6), t])), (fun n => isErr n "BadLine", fun n t => (.tup [(.int 10), t]))])
  (fRet (fTup (fCons (fK (.int 15)) (fCons (fK .non) fNil)))))
noncomputable def fn__law_caught : Fn := lock fun ds q x => ds.length = 2 ∧ g__law_caught (startD 3 ds) (entry false q x)
theorem fn__law_caught_eq (ds : List D) (q : D → Prop) (x : XD) : fn__law_caught ds q x = (ds.length = 2 ∧ g__law_caught (startD 3 ds) (entry false q x)) := lock_at _ ds q x
abbrev Cal__law_caught (P : Program) (w : World) (K : PySem.W.Frag) (mg : Str → Option Value) (base : Heap) : Prop := Cal P w K mg base 4 "_law_caught" p__law_caught (spN K false fn__law_caught) [[]] []
noncomputable def g__law_caught_as_base : FS :=
  (fSeq (fTry errL (fDrop (fCall fn__law_raise [] (fCons (fVar 0) (fCons (fVar 1) fNil)))) [(fun n => isErr n "StepError", fun n t => (hv__law_kindsE n))])
  (fRet (fLst fNil)))
noncomputable def fn__law_caught_as_base : Fn := lock fun ds q x => ds.length = 2 ∧ g__law_caught_as_base (startD 3 ds) (entry false q x)
theorem fn__law_caught_as_base_eq (ds : List D) (q : D → Prop) (x : XD) : fn__law_caught_as_base ds q x = (ds.length = 2 ∧ g__law_caught_as_base (startD 3 ds) (entry false q x)) := lock_at _ ds q x
abbrev Cal__law_caught_as_base (P : Program) (w : World) (K : PySem.W.Frag) (mg : Str → Option Value) (base : Heap) : Prop := Cal P w K mg base 4 "_law_caught_as_base" p__law_caught_as_base (spN K false fn__law_caught_as_base) [[]] []
noncomputable def g_law (d : Addr) : FS :=
  (fSeq (fAsg (fTup (fCons (fCallG fn__law_any d (fCons (fVar 1) (fCons (fK (.int 3)) fNil))) (fCons (fCallG fn__law_any d (fCons (fVar 1) (fCons (fK (.int 2)) fNil))) fNil))) (fGseq 2 (fGcons (fName 2) (fGcons (fName 3) fGnil))))
  (fSeq (fPar2 4 5 (fCons (fCall fn__law_by_position [] (fCons (fVar 2) fNil)) (fCons (fCall fn__law_by_name [] (fCons (fVar 3) fNil)) fNil)))
  (fSeq (fIfS (fTest (f2 (sEq true) (fLc (fIt (fCall fn__law_carried [] (fCons (fVar 4) fNil))) (fName 6) (gNot (fTest (fCall fn__law_is_same [] (fCons (fVar 6) (fCons (fVar 2) fNil))))) (fVar 6) [6]) (fLst fNil)))
  (fRet (fK (.bl false)))
  fSkip)
  (fSeq (fIfS (fTest (f2 (sEq true) (fLc (fIt (fCall fn__law_carried [] (fCons (fVar 5) fNil))) (fName 6) (gNot (fTest (fCall fn__law_is_same [] (fCons (fVar 6) (fCons (fVar 3) fNil))))) (fVar 6) [6]) (fLst fNil)))
  (fRet (fK (.bl false)))
  fSkip)
  (fSeq (fFor (fIt (fTup (fCons (fVar 4) (fCons (fVar 5) fNil)))) (fName 7)
  (fFor (fEnL (fVar 7)) (fGtup 2 (fGcons (fName 8) (fGcons (fName 9) fGnil)))
  (fIfS (gNot (fTest (fCall fn__law_is_own [] (fCons (fVar 8) (fCons (fVar 9) fNil)))))
  (fRet (fK (.bl false)))
  fSkip)))
  (fSeq (fFor (fRg1 (fK (.int 15))) (fName 10)
  (fSeq (fAsg (fCall fn__law_caught [] (fCons (fVar 10) (fCons (fVar 2) fNil))) (fName 11))
  (fSeq (fIfS (gOr (fTest (f2 (sEq true) (f2 sIx (fVar 11) (fK (.int 0))) (fVar 10))) (gNot (fTest (fCall fn__law_is_same [] (fCons (f2 sIx (fVar 11) (fK (.int 1))) (fCons (fVar 2) fNil))))))
  (fRet (fK (.bl false)))
  fSkip)
  (fIfS (fTest (f2 (sEq true) (fCall fn__law_caught_as_base [] (fCons (fVar 10) (fCons (fVar 3) fNil))) (fLc (fRg1 (fK (.int 15))) (fName 12) fYes (f2 (sEq false) (fVar 12) (fVar 10)) [12])))
  (fRet (fK (.bl false)))
  fSkip))))
  (fRet (fK (.bl true)))))))))
abbrev Cal_law (P : Program) (w : World) (K : PySem.W.Frag) (mg : Str → Option Value) (base : Heap) : Prop := Cal P w K mg base 10 "law" p_law (spLaw K) [[]] []
section
variable {P : Program} {w : World} {K : PySem.W.Frag} {mg : Str → Option Value} {base : Heap} {f : Addr} {fd : FuncData}
theorem ok__law_pick (F : FnP K "_law_pick" (top 20) [] f fd) (T : Txt K mg) (C__law_draw : Cal__law_draw P w K mg base) : FnG P w K mg base CX0 2 f fd p__law_pick (spG K "left" false fn__law_pick) :=
  okG F sc__law_pick (fun ds q x h => by rw [((fn__law_pick_eq ds q x).mp h).1]; rfl) fun cdv A outer s H E d l hr hG => ⟨[], g__law_pick d, (dss_one (ds_ret (de_ix (db_of (pv 1)) (DE.toB (cal_G C__law_draw hr hG (by rfl) (da_cons (de_of (pv 0)) (da_cons (de_len (by rfl) T.n_len (db_of (pv 1))) da_nil))))))), fun ds q x h => ((fn__law_pick_eq ds q x).mp h).2 d⟩
theorem ok__law_any_1 (F : FnP K "_law_any" (top 21) [] f fd) (T : Txt K mg) (C_rc : Cal__law_any_0 P w K mg base) (C__law_draw : Cal__law_draw P w K mg base) (C__law_pick : Cal__law_pick P w K mg base) : FnG P w K mg base CX0 3 f fd p__law_any (spG K "left" false fn__law_any_1) :=
  okG F sc__law_any (fun ds q x h => by rw [((fn__law_any_1_eq ds q x).mp h).1]; rfl) fun cdv A outer s H E d l hr hG => ⟨[], g__law_any fn__law_any_0 d, (dss_cons (ds_set (i := 2) sc__law_any.nd rfl (by first | exact .inl rfl | exact .inr rfl) (cal_G C__law_draw hr hG (by rfl) (da_cons (de_of (pv 0)) (da_cons de_int da_nil))))
  (dss_cons (ds_if (dt_cmp cd_lt (db_of (pv 2)) (de_int).toB)
  (dss_one (ds_ret (cal_G C__law_pick hr hG (by rfl) (da_cons (de_of (pv 0)) (da_cons (DF.toE (df_lst (da_cons de_int (da_cons de_int (da_cons (de_neg (de_int).toB) (da_cons de_int (da_cons (de_mul (de_int).toB (DE.toB (de_pow (de_int).toB (de_int).toB))) (da_cons (de_neg (DE.toB (de_pow (de_int).toB (de_int).toB))) (da_cons de_int (da_cons de_int da_nil)))))))))) da_nil)))))
  dss_nil)
  (dss_cons (ds_if (dt_cmp cd_lt (db_of (pv 2)) (de_int).toB)
  (dss_one (ds_ret (cal_G C__law_pick hr hG (by rfl) (da_cons (de_of (pv 0)) (da_cons (DF.toE (df_lst (da_cons de_str (da_cons de_str (da_cons de_str (da_cons de_str (da_cons de_str (da_cons de_str da_nil)))))))) da_nil)))))
  dss_nil)
  (dss_cons (ds_if (dt_cmp (cd_eq hr.units) (db_of (pv 2)) (de_int).toB)
  (dss_one (ds_ret (cal_G C__law_pick hr hG (by rfl) (da_cons (de_of (pv 0)) (da_cons (DF.toE (df_lst (da_cons de_bl (da_cons de_bl (da_cons de_non da_nil))))) da_nil)))))
  dss_nil)
  (dss_cons (ds_set (i := 3) sc__law_any.nd rfl (by first | exact .inl rfl | exact .inr rfl) (DF.toE (df_if (dt_cmp cd_gt (db_of (pv 1)) (de_int).toB) (df_lc (own := [("turn", 4)]) rfl sc__law_any.nd (di_range1 (by rfl) T.n_range (cal_G C__law_draw hr hG (by rfl) (da_cons (de_of (pv 0)) (da_cons de_int da_nil)))) (blkOk_by (by rfl)) (fun _ _ _ _ _ => (dgw_name (i := 4) sc__law_any.nd rfl (by first | exact .inl rfl | exact .inr rfl) (by first | exact .inl rfl | exact .inr rfl))) (fun _ _ _ _ _ => dts_nil) (fun _ _ _ _ _ => (cal_G C_rc hr hG (by rfl) (da_cons (de_of (pv 0)) (da_cons (de_sub (db_of (pv 1)) (de_int).toB) da_nil))))) (df_lst da_nil))))
  (dss_cons (ds_if (dt_cmp (cd_eq hr.units) (db_of (pv 2)) (de_int).toB)
  (dss_one (ds_ret (de_of (pv 3))))
  dss_nil)
  (dss_one (ds_ret (de_if (dt_cmp (cd_eq hr.units) (db_of (pv 2)) (de_int).toB) (de_diz (dp_cons dk_str (de_of (pv 3)) (dp_cons dk_int (de_len (by rfl) T.n_len (db_of (pv 3))) dp_nil)) (by decide) (by rfl) (by rfl) (fun z => nomatch z) (Nat.le_of_ble_eq_true rfl) (Nat.le_of_ble_eq_true rfl)) (de_tuple (by rfl) T.n_tuple (db_of (pv 3)))))))))))), fun ds q x h => ((fn__law_any_1_eq ds q x).mp h).2 d⟩
theorem ok__law_any_2 (F : FnP K "_law_any" (top 21) [] f fd) (T : Txt K mg) (C_rc : Cal__law_any_1 P w K mg base) (C__law_draw : Cal__law_draw P w K mg base) (C__law_pick : Cal__law_pick P w K mg base) : FnG P w K mg base CX0 4 f fd p__law_any (spG K "left" false fn__law_any_2) :=
  okG F sc__law_any (fun ds q x h => by rw [((fn__law_any_2_eq ds q x).mp h).1]; rfl) fun cdv A outer s H E d l hr hG => ⟨[], g__law_any fn__law_any_1 d, (dss_cons (ds_set (i := 2) sc__law_any.nd rfl (by first | exact .inl rfl | exact .inr rfl) (cal_G C__law_draw hr hG (by rfl) (da_cons (de_of (pv 0)) (da_cons de_int da_nil))))
  (dss_cons (ds_if (dt_cmp cd_lt (db_of (pv 2)) (de_int).toB)
  (dss_one (ds_ret (cal_G C__law_pick hr hG (by rfl) (da_cons (de_of (pv 0)) (da_cons (DF.toE (df_lst (da_cons de_int (da_cons de_int (da_cons (de_neg (de_int).toB) (da_cons de_int (da_cons (de_mul (de_int).toB (DE.toB (de_pow (de_int).toB (de_int).toB))) (da_cons (de_neg (DE.toB (de_pow (de_int).toB (de_int).toB))) (da_cons de_int (da_cons de_int da_nil)))))))))) da_nil)))))
  dss_nil)
  (dss_cons (ds_if (dt_cmp cd_lt (db_of (pv 2)) (de_int).toB)
  (dss_one (ds_ret (cal_G C__law_pick hr hG (by rfl) (da_cons (de_of (pv 0)) (da_cons (DF.toE (df_lst (da_cons de_str (da_cons de_str (da_cons de_str (da_cons de_str (da_cons de_str (da_cons de_str da_nil)))))))) da_nil)))))
  dss_nil)
  (dss_cons (ds_if (dt_cmp (cd_eq hr.units) (db_of (pv 2)) (de_int).toB)
  (dss_one (ds_ret (cal_G C__law_pick hr hG (by rfl) (da_cons (de_of (pv 0)) (da_cons (DF.toE (df_lst (da_cons de_bl (da_cons de_bl (da_cons de_non da_nil))))) da_nil)))))
  dss_nil)
  (dss_cons (ds_set (i := 3) sc__law_any.nd rfl (by first | exact .inl rfl | exact .inr rfl) (DF.toE (df_if (dt_cmp cd_gt (db_of (pv 1)) (de_int).toB) (df_lc (own := [("turn", 4)]) rfl sc__law_any.nd (di_range1 (by rfl) T.n_range (cal_G C__law_draw hr hG (by rfl) (da_cons (de_of (pv 0)) (da_cons de_int da_nil)))) (blkOk_by (by rfl)) (fun _ _ _ _ _ => (dgw_name (i := 4) sc__law_any.nd rfl (by first | exact .inl rfl | exact .inr rfl) (by first | exact .inl rfl | exact .inr rfl))) (fun _ _ _ _ _ => dts_nil) (fun _ _ _ _ _ => (cal_G C_rc hr hG (by rfl) (da_cons (de_of (pv 0)) (da_cons (de_sub (db_of (pv 1)) (de_int).toB) da_nil))))) (df_lst da_nil))))
  (dss_cons (ds_if (dt_cmp (cd_eq hr.units) (db_of (pv 2)) (de_int).toB)
  (dss_one (ds_ret (de_of (pv 3))))
  dss_nil)
  (dss_one (ds_ret (de_if (dt_cmp (cd_eq hr.units) (db_of (pv 2)) (de_int).toB) (de_diz (dp_cons dk_str (de_of (pv 3)) (dp_cons dk_int (de_len (by rfl) T.n_len (db_of (pv 3))) dp_nil)) (by decide) (by rfl) (by rfl) (fun z => nomatch z) (Nat.le_of_ble_eq_true rfl) (Nat.le_of_ble_eq_true rfl)) (de_tuple (by rfl) T.n_tuple (db_of (pv 3)))))))))))), fun ds q x h => ((fn__law_any_2_eq ds q x).mp h).2 d⟩
theorem ok__law_any_3 (F : FnP K "_law_any" (top 21) [] f fd) (T : Txt K mg) (C_rc : Cal__law_any_2 P w K mg base) (C__law_draw : Cal__law_draw P w K mg base) (C__law_pick : Cal__law_pick P w K mg base) : FnG P w K mg base CX0 5 f fd p__law_any (spG K "left" false fn__law_any_3) :=
  okG F sc__law_any (fun ds q x h => by rw [((fn__law_any_3_eq ds q x).mp h).1]; rfl) fun cdv A outer s H E d l hr hG => ⟨[], g__law_any fn__law_any_2 d, (dss_cons (ds_set (i := 2) sc__law_any.nd rfl (by first | exact .inl rfl | exact .inr rfl) (cal_G C__law_draw hr hG (by rfl) (da_cons (de_of (pv 0)) (da_cons de_int da_nil))))
  (dss_cons (ds_if (dt_cmp cd_lt (db_of (pv 2)) (de_int).toB)
  (dss_one (ds_ret (cal_G C__law_pick hr hG (by rfl) (da_cons (de_of (pv 0)) (da_cons (DF.toE (df_lst (da_cons de_int (da_cons de_int (da_cons (de_neg (de_int).toB) (da_cons de_int (da_cons (de_mul (de_int).toB (DE.toB (de_pow (de_int).toB (de_int).toB))) (da_cons (de_neg (DE.toB (de_pow (de_int).toB (de_int).toB))) (da_cons de_int (da_cons de_int da_nil)))))))))) da_nil)))))
  dss_nil)
  (dss_cons (ds_if (dt_cmp cd_lt (db_of (pv 2)) (de_int).toB)
  (dss_one (ds_ret (cal_G C__law_pick hr hG (by rfl) (da_cons (de_of (pv 0)) (da_cons (DF.toE (df_lst (da_cons de_str (da_cons de_str (da_cons de_str (da_cons de_str (da_cons de_str (da_cons de_str da_nil)))))))) da_nil)))))
  dss_nil)
  (dss_cons (ds_if (dt_cmp (cd_eq hr.units) (db_of (pv 2)) (de_int).toB)
  (dss_one (ds_ret (cal_G C__law_pick hr hG (by rfl) (da_cons (de_of (pv 0)) (da_cons (DF.toE (df_lst (da_cons de_bl (da_cons de_bl (da_cons de_non da_nil))))) da_nil)))))
  dss_nil)
  (dss_cons (ds_set (i := 3) sc__law_any.nd rfl (by first | exact .inl rfl | exact .inr rfl) (DF.toE (df_if (dt_cmp cd_gt (db_of (pv 1)) (de_int).toB) (df_lc (own := [("turn", 4)]) rfl sc__law_any.nd (di_range1 (by rfl) T.n_range (cal_G C__law_draw hr hG (by rfl) (da_cons (de_of (pv 0)) (da_cons de_int da_nil)))) (blkOk_by (by rfl)) (fun _ _ _ _ _ => (dgw_name (i := 4) sc__law_any.nd rfl (by first | exact .inl rfl | exact .inr rfl) (by first | exact .inl rfl | exact .inr rfl))) (fun _ _ _ _ _ => dts_nil) (fun _ _ _ _ _ => (cal_G C_rc hr hG (by rfl) (da_cons (de_of (pv 0)) (da_cons (de_sub (db_of (pv 1)) (de_int).toB) da_nil))))) (df_lst da_nil))))
  (dss_cons (ds_if (dt_cmp (cd_eq hr.units) (db_of (pv 2)) (de_int).toB)
  (dss_one (ds_ret (de_of (pv 3))))
  dss_nil)
  (dss_one (ds_ret (de_if (dt_cmp (cd_eq hr.units) (db_of (pv 2)) (de_int).toB) (de_diz (dp_cons dk_str (de_of (pv 3)) (dp_cons dk_int (de_len (by rfl) T.n_len (db_of (pv 3))) dp_nil)) (by decide) (by rfl) (by rfl) (fun z => nomatch z) (Nat.le_of_ble_eq_true rfl) (Nat.le_of_ble_eq_true rfl)) (de_tuple (by rfl) T.n_tuple (db_of (pv 3)))))))))))), fun ds q x h => ((fn__law_any_3_eq ds q x).mp h).2 d⟩
theorem ok__law_any_4 (F : FnP K "_law_any" (top 21) [] f fd) (T : Txt K mg) (C_rc : Cal__law_any_3 P w K mg base) (C__law_draw : Cal__law_draw P w K mg base) (C__law_pick : Cal__law_pick P w K mg base) : FnG P w K mg base CX0 6 f fd p__law_any (spG K "left" false fn__law_any_4) :=
  okG F sc__law_any (fun ds q x h => by rw [((fn__law_any_4_eq ds q x).mp h).1]; rfl) fun cdv A outer s H E d l hr hG => ⟨[], g__law_any fn__law_any_3 d, (dss_cons (ds_set (i := 2) sc__law_any.nd rfl (by first | exact .inl rfl | exact .inr rfl) (cal_G C__law_draw hr hG (by rfl) (da_cons (de_of (pv 0)) (da_cons de_int da_nil))))
  (dss_cons (ds_if (dt_cmp cd_lt (db_of (pv 2)) (de_int).toB)
  (dss_one (ds_ret (cal_G C__law_pick hr hG (by rfl) (da_cons (de_of (pv 0)) (da_cons (DF.toE (df_lst (da_cons de_int (da_cons de_int (da_cons (de_neg (de_int).toB) (da_cons de_int (da_cons (de_mul (de_int).toB (DE.toB (de_pow (de_int).toB (de_int).toB))) (da_cons (de_neg (DE.toB (de_pow (de_int).toB (de_int).toB))) (da_cons de_int (da_cons de_int da_nil)))))))))) da_nil)))))
  dss_nil)
  (dss_cons (ds_if (dt_cmp cd_lt (db_of (pv 2)) (de_int).toB)
  (dss_one (ds_ret (cal_G C__law_pick hr hG (by rfl) (da_cons (de_of (pv 0)) (da_cons (DF.toE (df_lst (da_cons de_str (da_cons de_str (da_cons de_str (da_cons de_str (da_cons de_str (da_cons de_str da_nil)))))))) da_nil)))))
  dss_nil)
  (dss_cons (ds_if (dt_cmp (cd_eq hr.units) (db_of (pv 2)) (de_int).toB)
  (dss_one (ds_ret (cal_G C__law_pick hr hG (by rfl) (da_cons (de_of (pv 0)) (da_cons (DF.toE (df_lst (da_cons de_bl (da_cons de_bl (da_cons de_non da_nil))))) da_nil)))))
  dss_nil)
  (dss_cons (ds_set (i := 3) sc__law_any.nd rfl (by first | exact .inl rfl | exact .inr rfl) (DF.toE (df_if (dt_cmp cd_gt (db_of (pv 1)) (de_int).toB) (df_lc (own := [("turn", 4)]) rfl sc__law_any.nd (di_range1 (by rfl) T.n_range (cal_G C__law_draw hr hG (by rfl) (da_cons (de_of (pv 0)) (da_cons de_int da_nil)))) (blkOk_by (by rfl)) (fun _ _ _ _ _ => (dgw_name (i := 4) sc__law_any.nd rfl (by first | exact .inl rfl | exact .inr rfl) (by first | exact .inl rfl | exact .inr rfl))) (fun _ _ _ _ _ => dts_nil) (fun _ _ _ _ _ => (cal_G C_rc hr hG (by rfl) (da_cons (de_of (pv 0)) (da_cons (de_sub (db_of (pv 1)) (de_int).toB) da_nil))))) (df_lst da_nil))))
  (dss_cons (ds_if (dt_cmp (cd_eq hr.units) (db_of (pv 2)) (de_int).toB)
  (dss_one (ds_ret (de_of (pv 3))))
  dss_nil)
  (dss_one (ds_ret (de_if (dt_cmp (cd_eq hr.units) (db_of (pv 2)) (de_int).toB) (de_diz (dp_cons dk_str (de_of (pv 3)) (dp_cons dk_int (de_len (by rfl) T.n_len (db_of (pv 3))) dp_nil)) (by decide) (by rfl) (by rfl) (fun z => nomatch z) (Nat.le_of_ble_eq_true rfl) (Nat.le_of_ble_eq_true rfl)) (de_tuple (by rfl) T.n_tuple (db_of (pv 3)))))))))))), fun ds q x h => ((fn__law_any_4_eq ds q x).mp h).2 d⟩
theorem ok__law_is_same_1 (F : FnP K "_law_is_same" (top 22) [] f fd) (T : Txt K mg) (C_rc : Cal__law_is_same_0 P w K mg base)  : FnG P w K mg base CX0 1 f fd p__law_is_same (spN K false fn__law_is_same_1) :=
  okN F sc__law_is_same (fun ds q x h => ((fn__law_is_same_1_eq ds q x).mp h).1) fun cdv A outer s H E hr hG => ⟨[], g__law_is_same fn__law_is_same_0, (dss_cons (ds_if (dt_val (de_isiT ["list", "tuple"] (by decide +kernel) (by rfl) T.n_isinstance (db_of (pv 0)) (pa_cons (pe_bltn (v := .ty "list") (by rfl) T.n_list (by decide +kernel) rfl) (pa_cons (pe_bltn (v := .ty "tuple") (by rfl) T.n_tuple (by decide +kernel) rfl) pa_nil))))
  (dss_cons (ds_if (dw_pt (dw_or (dt_not (dt_val (de_isiT ["list", "tuple"] (by decide +kernel) (by rfl) T.n_isinstance (db_of (pv 1)) (pa_cons (pe_bltn (v := .ty "list") (by rfl) T.n_list (by decide +kernel) rfl) (pa_cons (pe_bltn (v := .ty "tuple") (by rfl) T.n_tuple (by decide +kernel) rfl) pa_nil))))) (dw_or1 (dt_cmp (cd_ne hr.units) (DE.toB (de_isi (T := "list") (by rfl) T.n_isinstance (by rfl) T.n_list (by decide +kernel) (db_of (pv 0)) isi_list)) (DE.toB (de_isi (T := "list") (by rfl) T.n_isinstance (by rfl) T.n_list (by decide +kernel) (db_of (pv 1)) isi_list))))))
  (dss_one (ds_ret de_bl))
  dss_nil)
  (dss_one (ds_ret (de_and (de_cmp (cd_eq hr.units) (DE.toB (de_len (by rfl) T.n_len (db_of (pv 0)))) (DE.toB (de_len (by rfl) T.n_len (db_of (pv 1))))) (de_one (de_cmp (cd_eq hr.units) (DE.toB (DF.toE (df_lc (own := [("at", 2), ("it", 3)]) rfl sc__law_is_same.nd (di_enumV (by rfl) T.n_enumerate (pv 0)) (blkOk_by (by rfl)) (fun _ _ _ _ _ => (dgw_tup rfl (dgsw_cons (dgw_name (i := 2) sc__law_is_same.nd rfl (by first | exact .inl rfl | exact .inr rfl) (by first | exact .inl rfl | exact .inr rfl)) (dgsw_cons (dgw_name (i := 3) sc__law_is_same.nd rfl (by first | exact .inl rfl | exact .inr rfl) (by first | exact .inl rfl | exact .inr rfl)) dgsw_nil)))) (fun _ _ _ _ _ => (dts_one (dt_not (dt_val (cal_N C_rc hr hG (by rfl) 0 (da_cons (de_of (pv 3)) (da_cons (de_ix (db_of (pv 1)) (db_of (pv 2))) da_nil))))))) (fun _ _ _ _ _ => (de_of (pv 2)))))) (DE.toB (DF.toE (df_lst da_nil)))))))))
  dss_nil)
  (dss_cons (ds_if (dt_val (de_isi (T := "dict") (by rfl) T.n_isinstance (by rfl) T.n_dict (by decide +kernel) (db_of (pv 0)) isi_dict))
  (dss_cons (ds_if (dw_pt (dw_or (dt_not (dt_val (de_isi (T := "dict") (by rfl) T.n_isinstance (by rfl) T.n_dict (by decide +kernel) (db_of (pv 1)) isi_dict))) (dw_or1 (dt_cmp (cd_ne hr.units) (DE.toB (de_lenZ (by rfl) T.n_len (db_of (pv 0)))) (DE.toB (de_lenZ (by rfl) T.n_len (db_of (pv 1))))))))
  (dss_one (ds_ret de_bl))
  dss_nil)
  (dss_one (ds_ret (de_cmp (cd_eq hr.units) (DE.toB (DF.toE (df_lc (own := [("key", 4)]) rfl sc__law_is_same.nd (di_keysZ (de_of (pv 0))) (blkOk_by (by rfl)) (fun _ _ _ _ _ => (dgw_name (i := 4) sc__law_is_same.nd rfl (by first | exact .inl rfl | exact .inr rfl) (by first | exact .inl rfl | exact .inr rfl))) (fun _ _ _ _ _ => (dts_one (dw_pt (dw_or (dt_notInZ (hu_of hr) (de_of (pv 4)) (de_of (pv 1))) (dw_or1 (dt_not (dt_val (cal_N C_rc hr hG (by rfl) 0 (da_cons (de_getZ (hu_of hr) (de_of (pv 0)) (de_of (pv 4)) (fun _ _ => rfl)) (da_cons (de_getZ (hu_of hr) (de_of (pv 1)) (de_of (pv 4)) (fun _ _ => rfl)) da_nil)))))))))) (fun _ _ _ _ _ => (de_of (pv 4)))))) (DE.toB (DF.toE (df_lst da_nil)))))))
  dss_nil)
  (dss_one (ds_ret (de_and (de_not (de_isiT ["list", "tuple", "dict"] (by decide +kernel) (by rfl) T.n_isinstance (db_of (pv 1)) (pa_cons (pe_bltn (v := .ty "list") (by rfl) T.n_list (by decide +kernel) rfl) (pa_cons (pe_bltn (v := .ty "tuple") (by rfl) T.n_tuple (by decide +kernel) rfl) (pa_cons (pe_bltn (v := .ty "dict") (by rfl) T.n_dict (by decide +kernel) rfl) pa_nil))))) (de_one (de_cmp (cd_eq hr.units) (DE.toB (de_reprZ hG hr.units (by rfl) T.n_repr (db_of (pv 0)))) (DE.toB (de_reprZ hG hr.units (by rfl) T.n_repr (db_of (pv 1))))))))))), fun ds q x h => ((fn__law_is_same_1_eq ds q x).mp h).2⟩
theorem ok__law_is_same_2 (F : FnP K "_law_is_same" (top 22) [] f fd) (T : Txt K mg) (C_rc : Cal__law_is_same_1 P w K mg base)  : FnG P w K mg base CX0 2 f fd p__law_is_same (spN K false fn__law_is_same_2) :=
  okN F sc__law_is_same (fun ds q x h => ((fn__law_is_same_2_eq ds q x).mp h).1) fun cdv A outer s H E hr hG => ⟨[], g__law_is_same fn__law_is_same_1, (dss_cons (ds_if (dt_val (de_isiT ["list", "tuple"] (by decide +kernel) (by rfl) T.n_isinstance (db_of (pv 0)) (pa_cons (pe_bltn (v := .ty "list") (by rfl) T.n_list (by decide +kernel) rfl) (pa_cons (pe_bltn (v := .ty "tuple") (by rfl) T.n_tuple (by decide +kernel) rfl) pa_nil))))
  (dss_cons (ds_if (dw_pt (dw_or (dt_not (dt_val (de_isiT ["list", "tuple"] (by decide +kernel) (by rfl) T.n_isinstance (db_of (pv 1)) (pa_cons (pe_bltn (v := .ty "list") (by rfl) T.n_list (by decide +kernel) rfl) (pa_cons (pe_bltn (v := .ty "tuple") (by rfl) T.n_tuple (by decide +kernel) rfl) pa_nil))))) (dw_or1 (dt_cmp (cd_ne hr.units) (DE.toB (de_isi (T := "list") (by rfl) T.n_isinstance (by rfl) T.n_list (by decide +kernel) (db_of (pv 0)) isi_list)) (DE.toB (de_isi (T := "list") (by rfl) T.n_isinstance (by rfl) T.n_list (by decide +kernel) (db_of (pv 1)) isi_list))))))
  (dss_one (ds_ret de_bl))
  dss_nil)
  (dss_one (ds_ret (de_and (de_cmp (cd_eq hr.units) (DE.toB (de_len (by rfl) T.n_len (db_of (pv 0)))) (DE.toB (de_len (by rfl) T.n_len (db_of (pv 1))))) (de_one (de_cmp (cd_eq hr.units) (DE.toB (DF.toE (df_lc (own := [("at", 2), ("it", 3)]) rfl sc__law_is_same.nd (di_enumV (by rfl) T.n_enumerate (pv 0)) (blkOk_by (by rfl)) (fun _ _ _ _ _ => (dgw_tup rfl (dgsw_cons (dgw_name (i := 2) sc__law_is_same.nd rfl (by first | exact .inl rfl | exact .inr rfl) (by first | exact .inl rfl | exact .inr rfl)) (dgsw_cons (dgw_name (i := 3) sc__law_is_same.nd rfl (by first | exact .inl rfl | exact .inr rfl) (by first | exact .inl rfl | exact .inr rfl)) dgsw_nil)))) (fun _ _ _ _ _ => (dts_one (dt_not (dt_val (cal_N C_rc hr hG (by rfl) 0 (da_cons (de_of (pv 3)) (da_cons (de_ix (db_of (pv 1)) (db_of (pv 2))) da_nil))))))) (fun _ _ _ _ _ => (de_of (pv 2)))))) (DE.toB (DF.toE (df_lst da_nil)))))))))
  dss_nil)
  (dss_cons (ds_if (dt_val (de_isi (T := "dict") (by rfl) T.n_isinstance (by rfl) T.n_dict (by decide +kernel) (db_of (pv 0)) isi_dict))
  (dss_cons (ds_if (dw_pt (dw_or (dt_not (dt_val (de_isi (T := "dict") (by rfl) T.n_isinstance (by rfl) T.n_dict (by decide +kernel) (db_of (pv 1)) isi_dict))) (dw_or1 (dt_cmp (cd_ne hr.units) (DE.toB (de_lenZ (by rfl) T.n_len (db_of (pv 0)))) (DE.toB (de_lenZ (by rfl) T.n_len (db_of (pv 1))))))))
  (dss_one (ds_ret de_bl))
  dss_nil)
  (dss_one (ds_ret (de_cmp (cd_eq hr.units) (DE.toB (DF.toE (df_lc (own := [("key", 4)]) rfl sc__law_is_same.nd (di_keysZ (de_of (pv 0))) (blkOk_by (by rfl)) (fun _ _ _ _ _ => (dgw_name (i := 4) sc__law_is_same.nd rfl (by first | exact .inl rfl | exact .inr rfl) (by first | exact .inl rfl | exact .inr rfl))) (fun _ _ _ _ _ => (dts_one (dw_pt (dw_or (dt_notInZ (hu_of hr) (de_of (pv 4)) (de_of (pv 1))) (dw_or1 (dt_not (dt_val (cal_N C_rc hr hG (by rfl) 0 (da_cons (de_getZ (hu_of hr) (de_of (pv 0)) (de_of (pv 4)) (fun _ _ => rfl)) (da_cons (de_getZ (hu_of hr) (de_of (pv 1)) (de_of (pv 4)) (fun _ _ => rfl)) da_nil)))))))))) (fun _ _ _ _ _ => (de_of (pv 4)))))) (DE.toB (DF.toE (df_lst da_nil)))))))
  dss_nil)
  (dss_one (ds_ret (de_and (de_not (de_isiT ["list", "tuple", "dict"] (by decide +kernel) (by rfl) T.n_isinstance (db_of (pv 1)) (pa_cons (pe_bltn (v := .ty "list") (by rfl) T.n_list (by decide +kernel) rfl) (pa_cons (pe_bltn (v := .ty "tuple") (by rfl) T.n_tuple (by decide +kernel) rfl) (pa_cons (pe_bltn (v := .ty "dict") (by rfl) T.n_dict (by decide +kernel) rfl) pa_nil))))) (de_one (de_cmp (cd_eq hr.units) (DE.toB (de_reprZ hG hr.units (by rfl) T.n_repr (db_of (pv 0)))) (DE.toB (de_reprZ hG hr.units (by rfl) T.n_repr (db_of (pv 1))))))))))), fun ds q x h => ((fn__law_is_same_2_eq ds q x).mp h).2⟩
theorem ok__law_is_same_3 (F : FnP K "_law_is_same" (top 22) [] f fd) (T : Txt K mg) (C_rc : Cal__law_is_same_2 P w K mg base)  : FnG P w K mg base CX0 3 f fd p__law_is_same (spN K false fn__law_is_same_3) :=
  okN F sc__law_is_same (fun ds q x h => ((fn__law_is_same_3_eq ds q x).mp h).1) fun cdv A outer s H E hr hG => ⟨[], g__law_is_same fn__law_is_same_2, (dss_cons (ds_if (dt_val (de_isiT ["list", "tuple"] (by decide +kernel) (by rfl) T.n_isinstance (db_of (pv 0)) (pa_cons (pe_bltn (v := .ty "list") (by rfl) T.n_list (by decide +kernel) rfl) (pa_cons (pe_bltn (v := .ty "tuple") (by rfl) T.n_tuple (by decide +kernel) rfl) pa_nil))))
  (dss_cons (ds_if (dw_pt (dw_or (dt_not (dt_val (de_isiT ["list", "tuple"] (by decide +kernel) (by rfl) T.n_isinstance (db_of (pv 1)) (pa_cons (pe_bltn (v := .ty "list") (by rfl) T.n_list (by decide +kernel) rfl) (pa_cons (pe_bltn (v := .ty "tuple") (by rfl) T.n_tuple (by decide +kernel) rfl) pa_nil))))) (dw_or1 (dt_cmp (cd_ne hr.units) (DE.toB (de_isi (T := "list") (by rfl) T.n_isinstance (by rfl) T.n_list (by decide +kernel) (db_of (pv 0)) isi_list)) (DE.toB (de_isi (T := "list") (by rfl) T.n_isinstance (by rfl) T.n_list (by decide +kernel) (db_of (pv 1)) isi_list))))))
  (dss_one (ds_ret de_bl))
  dss_nil)
  (dss_one (ds_ret (de_and (de_cmp (cd_eq hr.units) (DE.toB (de_len (by rfl) T.n_len (db_of (pv 0)))) (DE.toB (de_len (by rfl) T.n_len (db_of (pv 1))))) (de_one (de_cmp (cd_eq hr.units) (DE.toB (DF.toE (df_lc (own := [("at", 2), ("it", 3)]) rfl sc__law_is_same.nd (di_enumV (by rfl) T.n_enumerate (pv 0)) (blkOk_by (by rfl)) (fun _ _ _ _ _ => (dgw_tup rfl (dgsw_cons (dgw_name (i := 2) sc__law_is_same.nd rfl (by first | exact .inl rfl | exact .inr rfl) (by first | exact .inl rfl | exact .inr rfl)) (dgsw_cons (dgw_name (i := 3) sc__law_is_same.nd rfl (by first | exact .inl rfl | exact .inr rfl) (by first | exact .inl rfl | exact .inr rfl)) dgsw_nil)))) (fun _ _ _ _ _ => (dts_one (dt_not (dt_val (cal_N C_rc hr hG (by rfl) 0 (da_cons (de_of (pv 3)) (da_cons (de_ix (db_of (pv 1)) (db_of (pv 2))) da_nil))))))) (fun _ _ _ _ _ => (de_of (pv 2)))))) (DE.toB (DF.toE (df_lst da_nil)))))))))
  dss_nil)
  (dss_cons (ds_if (dt_val (de_isi (T := "dict") (by rfl) T.n_isinstance (by rfl) T.n_dict (by decide +kernel) (db_of (pv 0)) isi_dict))
  (dss_cons (ds_if (dw_pt (dw_or (dt_not (dt_val (de_isi (T := "dict") (by rfl) T.n_isinstance (by rfl) T.n_dict (by decide +kernel) (db_of (pv 1)) isi_dict))) (dw_or1 (dt_cmp (cd_ne hr.units) (DE.toB (de_lenZ (by rfl) T.n_len (db_of (pv 0)))) (DE.toB (de_lenZ (by rfl) T.n_len (db_of (pv 1))))))))
  (dss_one (ds_ret de_bl))
  dss_nil)
  (dss_one (ds_ret (de_cmp (cd_eq hr.units) (DE.toB (DF.toE (df_lc (own := [("key", 4)]) rfl sc__law_is_same.nd (di_keysZ (de_of (pv 0))) (blkOk_by (by rfl)) (fun _ _ _ _ _ => (dgw_name (i := 4) sc__law_is_same.nd rfl (by first | exact .inl rfl | exact .inr rfl) (by first | exact .inl rfl | exact .inr rfl))) (fun _ _ _ _ _ => (dts_one (dw_pt (dw_or (dt_notInZ (hu_of hr) (de_of (pv 4)) (de_of (pv 1))) (dw_or1 (dt_not (dt_val (cal_N C_rc hr hG (by rfl) 0 (da_cons (de_getZ (hu_of hr) (de_of (pv 0)) (de_of (pv 4)) (fun _ _ => rfl)) (da_cons (de_getZ (hu_of hr) (de_of (pv 1)) (de_of (pv 4)) (fun _ _ => rfl)) da_nil)))))))))) (fun _ _ _ _ _ => (de_of (pv 4)))))) (DE.toB (DF.toE (df_lst da_nil)))))))
  dss_nil)
  (dss_one (ds_ret (de_and (de_not (de_isiT ["list", "tuple", "dict"] (by decide +kernel) (by rfl) T.n_isinstance (db_of (pv 1)) (pa_cons (pe_bltn (v := .ty "list") (by rfl) T.n_list (by decide +kernel) rfl) (pa_cons (pe_bltn (v := .ty "tuple") (by rfl) T.n_tuple (by decide +kernel) rfl) (pa_cons (pe_bltn (v := .ty "dict") (by rfl) T.n_dict (by decide +kernel) rfl) pa_nil))))) (de_one (de_cmp (cd_eq hr.units) (DE.toB (de_reprZ hG hr.units (by rfl) T.n_repr (db_of (pv 0)))) (DE.toB (de_reprZ hG hr.units (by rfl) T.n_repr (db_of (pv 1))))))))))), fun ds q x h => ((fn__law_is_same_3_eq ds q x).mp h).2⟩
theorem ok__law_is_same_4 (F : FnP K "_law_is_same" (top 22) [] f fd) (T : Txt K mg) (C_rc : Cal__law_is_same_3 P w K mg base)  : FnG P w K mg base CX0 4 f fd p__law_is_same (spN K false fn__law_is_same_4) :=
  okN F sc__law_is_same (fun ds q x h => ((fn__law_is_same_4_eq ds q x).mp h).1) fun cdv A outer s H E hr hG => ⟨[], g__law_is_same fn__law_is_same_3, (dss_cons (ds_if (dt_val (de_isiT ["list", "tuple"] (by decide +kernel) (by rfl) T.n_isinstance (db_of (pv 0)) (pa_cons (pe_bltn (v := .ty "list") (by rfl) T.n_list (by decide +kernel) rfl) (pa_cons (pe_bltn (v := .ty "tuple") (by rfl) T.n_tuple (by decide +kernel) rfl) pa_nil))))
  (dss_cons (ds_if (dw_pt (dw_or (dt_not (dt_val (de_isiT ["list", "tuple"] (by decide +kernel) (by rfl) T.n_isinstance (db_of (pv 1)) (pa_cons (pe_bltn (v := .ty "list") (by rfl) T.n_list (by decide +kernel) rfl) (pa_cons (pe_bltn (v := .ty "tuple") (by rfl) T.n_tuple (by decide +kernel) rfl) pa_nil))))) (dw_or1 (dt_cmp (cd_ne hr.units) (DE.toB (de_isi (T := "list") (by rfl) T.n_isinstance (by rfl) T.n_list (by decide +kernel) (db_of (pv 0)) isi_list)) (DE.toB (de_isi (T := "list") (by rfl) T.n_isinstance (by rfl) T.n_list (by decide +kernel) (db_of (pv 1)) isi_list))))))
  (dss_one (ds_ret de_bl))
  dss_nil)
  (dss_one (ds_ret (de_and (de_cmp (cd_eq hr.units) (DE.toB (de_len (by rfl) T.n_len (db_of (pv 0)))) (DE.toB (de_len (by rfl) T.n_len (db_of (pv 1))))) (de_one (de_cmp (cd_eq hr.units) (DE.toB (DF.toE (df_lc (own := [("at", 2), ("it", 3)]) rfl sc__law_is_same.nd (di_enumV (by rfl) T.n_enumerate (pv 0)) (blkOk_by (by rfl)) (fun _ _ _ _ _ => (dgw_tup rfl (dgsw_cons (dgw_name (i := 2) sc__law_is_same.nd rfl (by first | exact .inl rfl | exact .inr rfl) (by first | exact .inl rfl | exact .inr rfl)) (dgsw_cons (dgw_name (i := 3) sc__law_is_same.nd rfl (by first | exact .inl rfl | exact .inr rfl) (by first | exact .inl rfl | exact .inr rfl)) dgsw_nil)))) (fun _ _ _ _ _ => (dts_one (dt_not (dt_val (cal_N C_rc hr hG (by rfl) 0 (da_cons (de_of (pv 3)) (da_cons (de_ix (db_of (pv 1)) (db_of (pv 2))) da_nil))))))) (fun _ _ _ _ _ => (de_of (pv 2)))))) (DE.toB (DF.toE (df_lst da_nil)))))))))
  dss_nil)
  (dss_cons (ds_if (dt_val (de_isi (T := "dict") (by rfl) T.n_isinstance (by rfl) T.n_dict (by decide +kernel) (db_of (pv 0)) isi_dict))
  (dss_cons (ds_if (dw_pt (dw_or (dt_not (dt_val (de_isi (T := "dict") (by rfl) T.n_isinstance (by rfl) T.n_dict (by decide +kernel) (db_of (pv 1)) isi_dict))) (dw_or1 (dt_cmp (cd_ne hr.units) (DE.toB (de_lenZ (by rfl) T.n_len (db_of (pv 0)))) (DE.toB (de_lenZ (by rfl) T.n_len (db_of (pv 1))))))))
  (dss_one (ds_ret de_bl))
  dss_nil)
  (dss_one (ds_ret (de_cmp (cd_eq hr.units) (DE.toB (DF.toE (df_lc (own := [("key", 4)]) rfl sc__law_is_same.nd (di_keysZ (de_of (pv 0))) (blkOk_by (by rfl)) (fun _ _ _ _ _ => (dgw_name (i := 4) sc__law_is_same.nd rfl (by first | exact .inl rfl | exact .inr rfl) (by first | exact .inl rfl | exact .inr rfl))) (fun _ _ _ _ _ => (dts_one (dw_pt (dw_or (dt_notInZ (hu_of hr) (de_of (pv 4)) (de_of (pv 1))) (dw_or1 (dt_not (dt_val (cal_N C_rc hr hG (by rfl) 0 (da_cons (de_getZ (hu_of hr) (de_of (pv 0)) (de_of (pv 4)) (fun _ _ => rfl)) (da_cons (de_getZ (hu_of hr) (de_of (pv 1)) (de_of (pv 4)) (fun _ _ => rfl)) da_nil)))))))))) (fun _ _ _ _ _ => (de_of (pv 4)))))) (DE.toB (DF.toE (df_lst da_nil)))))))
  dss_nil)
  (dss_one (ds_ret (de_and (de_not (de_isiT ["list", "tuple", "dict"] (by decide +kernel) (by rfl) T.n_isinstance (db_of (pv 1)) (pa_cons (pe_bltn (v := .ty "list") (by rfl) T.n_list (by decide +kernel) rfl) (pa_cons (pe_bltn (v := .ty "tuple") (by rfl) T.n_tuple (by decide +kernel) rfl) (pa_cons (pe_bltn (v := .ty "dict") (by rfl) T.n_dict (by decide +kernel) rfl) pa_nil))))) (de_one (de_cmp (cd_eq hr.units) (DE.toB (de_reprZ hG hr.units (by rfl) T.n_repr (db_of (pv 0)))) (DE.toB (de_reprZ hG hr.units (by rfl) T.n_repr (db_of (pv 1))))))))))), fun ds q x h => ((fn__law_is_same_4_eq ds q x).mp h).2⟩
theorem ok__law_is_same_5 (F : FnP K "_law_is_same" (top 22) [] f fd) (T : Txt K mg) (C_rc : Cal__law_is_same_4 P w K mg base)  : FnG P w K mg base CX0 5 f fd p__law_is_same (spN K false fn__law_is_same_5) :=
  okN F sc__law_is_same (fun ds q x h => ((fn__law_is_same_5_eq ds q x).mp h).1) fun cdv A outer s H E hr hG => ⟨[], g__law_is_same fn__law_is_same_4, (dss_cons (ds_if (dt_val (de_isiT ["list", "tuple"] (by decide +kernel) (by rfl) T.n_isinstance (db_of (pv 0)) (pa_cons (pe_bltn (v := .ty "list") (by rfl) T.n_list (by decide +kernel) rfl) (pa_cons (pe_bltn (v := .ty "tuple") (by rfl) T.n_tuple (by decide +kernel) rfl) pa_nil))))
  (dss_cons (ds_if (dw_pt (dw_or (dt_not (dt_val (de_isiT ["list", "tuple"] (by decide +kernel) (by rfl) T.n_isinstance (db_of (pv 1)) (pa_cons (pe_bltn (v := .ty "list") (by rfl) T.n_list (by decide +kernel) rfl) (pa_cons (pe_bltn (v := .ty "tuple") (by rfl) T.n_tuple (by decide +kernel) rfl) pa_nil))))) (dw_or1 (dt_cmp (cd_ne hr.units) (DE.toB (de_isi (T := "list") (by rfl) T.n_isinstance (by rfl) T.n_list (by decide +kernel) (db_of (pv 0)) isi_list)) (DE.toB (de_isi (T := "list") (by rfl) T.n_isinstance (by rfl) T.n_list (by decide +kernel) (db_of (pv 1)) isi_list))))))
  (dss_one (ds_ret de_bl))
  dss_nil)
  (dss_one (ds_ret (de_and (de_cmp (cd_eq hr.units) (DE.toB (de_len (by rfl) T.n_len (db_of (pv 0)))) (DE.toB (de_len (by rfl) T.n_len (db_of (pv 1))))) (de_one (de_cmp (cd_eq hr.units) (DE.toB (DF.toE (df_lc (own := [("at", 2), ("it", 3)]) rfl sc__law_is_same.nd (di_enumV (by rfl) T.n_enumerate (pv 0)) (blkOk_by (by rfl)) (fun _ _ _ _ _ => (dgw_tup rfl (dgsw_cons (dgw_name (i := 2) sc__law_is_same.nd rfl (by first | exact .inl rfl | exact .inr rfl) (by first | exact .inl rfl | exact .inr rfl)) (dgsw_cons (dgw_name (i := 3) sc__law_is_same.nd rfl (by first | exact .inl rfl | exact .inr rfl) (by first | exact .inl rfl | exact .inr rfl)) dgsw_nil)))) (fun _ _ _ _ _ => (dts_one (dt_not (dt_val (cal_N C_rc hr hG (by rfl) 0 (da_cons (de_of (pv 3)) (da_cons (de_ix (db_of (pv 1)) (db_of (pv 2))) da_nil))))))) (fun _ _ _ _ _ => (de_of (pv 2)))))) (DE.toB (DF.toE (df_lst da_nil)))))))))
  dss_nil)
  (dss_cons (ds_if (dt_val (de_isi (T := "dict") (by rfl) T.n_isinstance (by rfl) T.n_dict (by decide +kernel) (db_of (pv 0)) isi_dict))
  (dss_cons (ds_if (dw_pt (dw_or (dt_not (dt_val (de_isi (T := "dict") (by rfl) T.n_isinstance (by rfl) T.n_dict (by decide +kernel) (db_of (pv 1)) isi_dict))) (dw_or1 (dt_cmp (cd_ne hr.units) (DE.toB (de_lenZ (by rfl) T.n_len (db_of (pv 0)))) (DE.toB (de_lenZ (by rfl) T.n_len (db_of (pv 1))))))))
  (dss_one (ds_ret de_bl))
  dss_nil)
  (dss_one (ds_ret (de_cmp (cd_eq hr.units) (DE.toB (DF.toE (df_lc (own := [("key", 4)]) rfl sc__law_is_same.nd (di_keysZ (de_of (pv 0))) (blkOk_by (by rfl)) (fun _ _ _ _ _ => (dgw_name (i := 4) sc__law_is_same.nd rfl (by first | exact .inl rfl | exact .inr rfl) (by first | exact .inl rfl | exact .inr rfl))) (fun _ _ _ _ _ => (dts_one (dw_pt (dw_or (dt_notInZ (hu_of hr) (de_of (pv 4)) (de_of (pv 1))) (dw_or1 (dt_not (dt_val (cal_N C_rc hr hG (by rfl) 0 (da_cons (de_getZ (hu_of hr) (de_of (pv 0)) (de_of (pv 4)) (fun _ _ => rfl)) (da_cons (de_getZ (hu_of hr) (de_of (pv 1)) (de_of (pv 4)) (fun _ _ => rfl)) da_nil)))))))))) (fun _ _ _ _ _ => (de_of (pv 4)))))) (DE.toB (DF.toE (df_lst da_nil)))))))
  dss_nil)
  (dss_one (ds_ret (de_and (de_not (de_isiT ["list", "tuple", "dict"] (by decide +kernel) (by rfl) T.n_isinstance (db_of (pv 1)) (pa_cons (pe_bltn (v := .ty "list") (by rfl) T.n_list (by decide +kernel) rfl) (pa_cons (pe_bltn (v := .ty "tuple") (by rfl) T.n_tuple (by decide +kernel) rfl) (pa_cons (pe_bltn (v := .ty "dict") (by rfl) T.n_dict (by decide +kernel) rfl) pa_nil))))) (de_one (de_cmp (cd_eq hr.units) (DE.toB (de_reprZ hG hr.units (by rfl) T.n_repr (db_of (pv 0)))) (DE.toB (de_reprZ hG hr.units (by rfl) T.n_repr (db_of (pv 1))))))))))), fun ds q x h => ((fn__law_is_same_5_eq ds q x).mp h).2⟩
theorem ok__law_is_same_6 (F : FnP K "_law_is_same" (top 22) [] f fd) (T : Txt K mg) (C_rc : Cal__law_is_same_5 P w K mg base)  : FnG P w K mg base CX0 6 f fd p__law_is_same (spN K false fn__law_is_same_6) :=
  okN F sc__law_is_same (fun ds q x h => ((fn__law_is_same_6_eq ds q x).mp h).1) fun cdv A outer s H E hr hG => ⟨[], g__law_is_same fn__law_is_same_5, (dss_cons (ds_if (dt_val (de_isiT ["list", "tuple"] (by decide +kernel) (by rfl) T.n_isinstance (db_of (pv 0)) (pa_cons (pe_bltn (v := .ty "list") (by rfl) T.n_list (by decide +kernel) rfl) (pa_cons (pe_bltn (v := .ty "tuple") (by rfl) T.n_tuple (by decide +kernel) rfl) pa_nil))))
  (dss_cons (ds_if (dw_pt (dw_or (dt_not (dt_val (de_isiT ["list", "tuple"] (by decide +kernel) (by rfl) T.n_isinstance (db_of (pv 1)) (pa_cons (pe_bltn (v := .ty "list") (by rfl) T.n_list (by decide +kernel) rfl) (pa_cons (pe_bltn (v := .ty "tuple") (by rfl) T.n_tuple (by decide +kernel) rfl) pa_nil))))) (dw_or1 (dt_cmp (cd_ne hr.units) (DE.toB (de_isi (T := "list") (by rfl) T.n_isinstance (by rfl) T.n_list (by decide +kernel) (db_of (pv 0)) isi_list)) (DE.toB (de_isi (T := "list") (by rfl) T.n_isinstance (by rfl) T.n_list (by decide +kernel) (db_of (pv 1)) isi_list))))))
  (dss_one (ds_ret de_bl))
  dss_nil)
  (dss_one (ds_ret (de_and (de_cmp (cd_eq hr.units) (DE.toB (de_len (by rfl) T.n_len (db_of (pv 0)))) (DE.toB (de_len (by rfl) T.n_len (db_of (pv 1))))) (de_one (de_cmp (cd_eq hr.units) (DE.toB (DF.toE (df_lc (own := [("at", 2), ("it", 3)]) rfl sc__law_is_same.nd (di_enumV (by rfl) T.n_enumerate (pv 0)) (blkOk_by (by rfl)) (fun _ _ _ _ _ => (dgw_tup rfl (dgsw_cons (dgw_name (i := 2) sc__law_is_same.nd rfl (by first | exact .inl rfl | exact .inr rfl) (by first | exact .inl rfl | exact .inr rfl)) (dgsw_cons (dgw_name (i := 3) sc__law_is_same.nd rfl (by first | exact .inl rfl | exact .inr rfl) (by first | exact .inl rfl | exact .inr rfl)) dgsw_nil)))) (fun _ _ _ _ _ => (dts_one (dt_not (dt_val (cal_N C_rc hr hG (by rfl) 0 (da_cons (de_of (pv 3)) (da_cons (de_ix (db_of (pv 1)) (db_of (pv 2))) da_nil))))))) (fun _ _ _ _ _ => (de_of (pv 2)))))) (DE.toB (DF.toE (df_lst da_nil)))))))))
  dss_nil)
  (dss_cons (ds_if (dt_val (de_isi (T := "dict") (by rfl) T.n_isinstance (by rfl) T.n_dict (by decide +kernel) (db_of (pv 0)) isi_dict))
  (dss_cons (ds_if (dw_pt (dw_or (dt_not (dt_val (de_isi (T := "dict") (by rfl) T.n_isinstance (by rfl) T.n_dict (by decide +kernel) (db_of (pv 1)) isi_dict))) (dw_or1 (dt_cmp (cd_ne hr.units) (DE.toB (de_lenZ (by rfl) T.n_len (db_of (pv 0)))) (DE.toB (de_lenZ (by rfl) T.n_len (db_of (pv 1))))))))
  (dss_one (ds_ret de_bl))
  dss_nil)
  (dss_one (ds_ret (de_cmp (cd_eq hr.units) (DE.toB (DF.toE (df_lc (own := [("key", 4)]) rfl sc__law_is_same.nd (di_keysZ (de_of (pv 0))) (blkOk_by (by rfl)) (fun _ _ _ _ _ => (dgw_name (i := 4) sc__law_is_same.nd rfl (by first | exact .inl rfl | exact .inr rfl) (by first | exact .inl rfl | exact .inr rfl))) (fun _ _ _ _ _ => (dts_one (dw_pt (dw_or (dt_notInZ (hu_of hr) (de_of (pv 4)) (de_of (pv 1))) (dw_or1 (dt_not (dt_val (cal_N C_rc hr hG (by rfl) 0 (da_cons (de_getZ (hu_of hr) (de_of (pv 0)) (de_of (pv 4)) (fun _ _ => rfl)) (da_cons (de_getZ (hu_of hr) (de_of (pv 1)) (de_of (pv 4)) (fun _ _ => rfl)) da_nil)))))))))) (fun _ _ _ _ _ => (de_of (pv 4)))))) (DE.toB (DF.toE (df_lst da_nil)))))))
  dss_nil)
  (dss_one (ds_ret (de_and (de_not (de_isiT ["list", "tuple", "dict"] (by decide +kernel) (by rfl) T.n_isinstance (db_of (pv 1)) (pa_cons (pe_bltn (v := .ty "list") (by rfl) T.n_list (by decide +kernel) rfl) (pa_cons (pe_bltn (v := .ty "tuple") (by rfl) T.n_tuple (by decide +kernel) rfl) (pa_cons (pe_bltn (v := .ty "dict") (by rfl) T.n_dict (by decide +kernel) rfl) pa_nil))))) (de_one (de_cmp (cd_eq hr.units) (DE.toB (de_reprZ hG hr.units (by rfl) T.n_repr (db_of (pv 0)))) (DE.toB (de_reprZ hG hr.units (by rfl) T.n_repr (db_of (pv 1))))))))))), fun ds q x h => ((fn__law_is_same_6_eq ds q x).mp h).2⟩
theorem ok__law_is_same_7 (F : FnP K "_law_is_same" (top 22) [] f fd) (T : Txt K mg) (C_rc : Cal__law_is_same_6 P w K mg base)  : FnG P w K mg base CX0 7 f fd p__law_is_same (spN K false fn__law_is_same_7) :=
  okN F sc__law_is_same (fun ds q x h => ((fn__law_is_same_7_eq ds q x).mp h).1) fun cdv A outer s H E hr hG => ⟨[], g__law_is_same fn__law_is_same_6, (dss_cons (ds_if (dt_val (de_isiT ["list", "tuple"] (by decide +kernel) (by rfl) T.n_isinstance (db_of (pv 0)) (pa_cons (pe_bltn (v := .ty "list") (by rfl) T.n_list (by decide +kernel) rfl) (pa_cons (pe_bltn (v := .ty "tuple") (by rfl) T.n_tuple (by decide +kernel) rfl) pa_nil))))
  (dss_cons (ds_if (dw_pt (dw_or (dt_not (dt_val (de_isiT ["list", "tuple"] (by decide +kernel) (by rfl) T.n_isinstance (db_of (pv 1)) (pa_cons (pe_bltn (v := .ty "list") (by rfl) T.n_list (by decide +kernel) rfl) (pa_cons (pe_bltn (v := .ty "tuple") (by rfl) T.n_tuple (by decide +kernel) rfl) pa_nil))))) (dw_or1 (dt_cmp (cd_ne hr.units) (DE.toB (de_isi (T := "list") (by rfl) T.n_isinstance (by rfl) T.n_list (by decide +kernel) (db_of (pv 0)) isi_list)) (DE.toB (de_isi (T := "list") (by rfl) T.n_isinstance (by rfl) T.n_list (by decide +kernel) (db_of (pv 1)) isi_list))))))
  (dss_one (ds_ret de_bl))
  dss_nil)
  (dss_one (ds_ret (de_and (de_cmp (cd_eq hr.units) (DE.toB (de_len (by rfl) T.n_len (db_of (pv 0)))) (DE.toB (de_len (by rfl) T.n_len (db_of (pv 1))))) (de_one (de_cmp (cd_eq hr.units) (DE.toB (DF.toE (df_lc (own := [("at", 2), ("it", 3)]) rfl sc__law_is_same.nd (di_enumV (by rfl) T.n_enumerate (pv 0)) (blkOk_by (by rfl)) (fun _ _ _ _ _ => (dgw_tup rfl (dgsw_cons (dgw_name (i := 2) sc__law_is_same.nd rfl (by first | exact .inl rfl | exact .inr rfl) (by first | exact .inl rfl | exact .inr rfl)) (dgsw_cons (dgw_name (i := 3) sc__law_is_same.nd rfl (by first | exact .inl rfl | exact .inr rfl) (by first | exact .inl rfl | exact .inr rfl)) dgsw_nil)))) (fun _ _ _ _ _ => (dts_one (dt_not (dt_val (cal_N C_rc hr hG (by rfl) 0 (da_cons (de_of (pv 3)) (da_cons (de_ix (db_of (pv 1)) (db_of (pv 2))) da_nil))))))) (fun _ _ _ _ _ => (de_of (pv 2)))))) (DE.toB (DF.toE (df_lst da_nil)))))))))
  dss_nil)
  (dss_cons (ds_if (dt_val (de_isi (T := "dict") (by rfl) T.n_isinstance (by rfl) T.n_dict (by decide +kernel) (db_of (pv 0)) isi_dict))
  (dss_cons (ds_if (dw_pt (dw_or (dt_not (dt_val (de_isi (T := "dict") (by rfl) T.n_isinstance (by rfl) T.n_dict (by decide +kernel) (db_of (pv 1)) isi_dict))) (dw_or1 (dt_cmp (cd_ne hr.units) (DE.toB (de_lenZ (by rfl) T.n_len (db_of (pv 0)))) (DE.toB (de_lenZ (by rfl) T.n_len (db_of (pv 1))))))))
  (dss_one (ds_ret de_bl))
  dss_nil)
  (dss_one (ds_ret (de_cmp (cd_eq hr.units) (DE.toB (DF.toE (df_lc (own := [("key", 4)]) rfl sc__law_is_same.nd (di_keysZ (de_of (pv 0))) (blkOk_by (by rfl)) (fun _ _ _ _ _ => (dgw_name (i := 4) sc__law_is_same.nd rfl (by first | exact .inl rfl | exact .inr rfl) (by first | exact .inl rfl | exact .inr rfl))) (fun _ _ _ _ _ => (dts_one (dw_pt (dw_or (dt_notInZ (hu_of hr) (de_of (pv 4)) (de_of (pv 1))) (dw_or1 (dt_not (dt_val (cal_N C_rc hr hG (by rfl) 0 (da_cons (de_getZ (hu_of hr) (de_of (pv 0)) (de_of (pv 4)) (fun _ _ => rfl)) (da_cons (de_getZ (hu_of hr) (de_of (pv 1)) (de_of (pv 4)) (fun _ _ => rfl)) da_nil)))))))))) (fun _ _ _ _ _ => (de_of (pv 4)))))) (DE.toB (DF.toE (df_lst da_nil)))))))
  dss_nil)
  (dss_one (ds_ret (de_and (de_not (de_isiT ["list", "tuple", "dict"] (by decide +kernel) (by rfl) T.n_isinstance (db_of (pv 1)) (pa_cons (pe_bltn (v := .ty "list") (by rfl) T.n_list (by decide +kernel) rfl) (pa_cons (pe_bltn (v := .ty "tuple") (by rfl) T.n_tuple (by decide +kernel) rfl) (pa_cons (pe_bltn (v := .ty "dict") (by rfl) T.n_dict (by decide +kernel) rfl) pa_nil))))) (de_one (de_cmp (cd_eq hr.units) (DE.toB (de_reprZ hG hr.units (by rfl) T.n_repr (db_of (pv 0)))) (DE.toB (de_reprZ hG hr.units (by rfl) T.n_repr (db_of (pv 1))))))))))), fun ds q x h => ((fn__law_is_same_7_eq ds q x).mp h).2⟩
theorem ok__law_is_same_8 (F : FnP K "_law_is_same" (top 22) [] f fd) (T : Txt K mg) (C_rc : Cal__law_is_same_7 P w K mg base)  : FnG P w K mg base CX0 8 f fd p__law_is_same (spN K false fn__law_is_same_8) :=
  okN F sc__law_is_same (fun ds q x h => ((fn__law_is_same_8_eq ds q x).mp h).1) fun cdv A outer s H E hr hG => ⟨[], g__law_is_same fn__law_is_same_7, (dss_cons (ds_if (dt_val (de_isiT ["list", "tuple"] (by decide +kernel) (by rfl) T.n_isinstance (db_of (pv 0)) (pa_cons (pe_bltn (v := .ty "list") (by rfl) T.n_list (by decide +kernel) rfl) (pa_cons (pe_bltn (v := .ty "tuple") (by rfl) T.n_tuple (by decide +kernel) rfl) pa_nil))))
  (dss_cons (ds_if (dw_pt (dw_or (dt_not (dt_val (de_isiT ["list", "tuple"] (by decide +kernel) (by rfl) T.n_isinstance (db_of (pv 1)) (pa_cons (pe_bltn (v := .ty "list") (by rfl) T.n_list (by decide +kernel) rfl) (pa_cons (pe_bltn (v := .ty "tuple") (by rfl) T.n_tuple (by decide +kernel) rfl) pa_nil))))) (dw_or1 (dt_cmp (cd_ne hr.units) (DE.toB (de_isi (T := "list") (by rfl) T.n_isinstance (by rfl) T.n_list (by decide +kernel) (db_of (pv 0)) isi_list)) (DE.toB (de_isi (T := "list") (by rfl) T.n_isinstance (by rfl) T.n_list (by decide +kernel) (db_of (pv 1)) isi_list))))))
  (dss_one (ds_ret de_bl))
  dss_nil)
  (dss_one (ds_ret (de_and (de_cmp (cd_eq hr.units) (DE.toB (de_len (by rfl) T.n_len (db_of (pv 0)))) (DE.toB (de_len (by rfl) T.n_len (db_of (pv 1))))) (de_one (de_cmp (cd_eq hr.units) (DE.toB (DF.toE (df_lc (own := [("at", 2), ("it", 3)]) rfl sc__law_is_same.nd (di_enumV (by rfl) T.n_enumerate (pv 0)) (blkOk_by (by rfl)) (fun _ _ _ _ _ => (dgw_tup rfl (dgsw_cons (dgw_name (i := 2) sc__law_is_same.nd rfl (by first | exact .inl rfl | exact .inr rfl) (by first | exact .inl rfl | exact .inr rfl)) (dgsw_cons (dgw_name (i := 3) sc__law_is_same.nd rfl (by first | exact .inl rfl | exact .inr rfl) (by first | exact .inl rfl | exact .inr rfl)) dgsw_nil)))) (fun _ _ _ _ _ => (dts_one (dt_not (dt_val (cal_N C_rc hr hG (by rfl) 0 (da_cons (de_of (pv 3)) (da_cons (de_ix (db_of (pv 1)) (db_of (pv 2))) da_nil))))))) (fun _ _ _ _ _ => (de_of (pv 2)))))) (DE.toB (DF.toE (df_lst da_nil)))))))))
  dss_nil)
  (dss_cons (ds_if (dt_val (de_isi (T := "dict") (by rfl) T.n_isinstance (by rfl) T.n_dict (by decide +kernel) (db_of (pv 0)) isi_dict))
  (dss_cons (ds_if (dw_pt (dw_or (dt_not (dt_val (de_isi (T := "dict") (by rfl) T.n_isinstance (by rfl) T.n_dict (by decide +kernel) (db_of (pv 1)) isi_dict))) (dw_or1 (dt_cmp (cd_ne hr.units) (DE.toB (de_lenZ (by rfl) T.n_len (db_of (pv 0)))) (DE.toB (de_lenZ (by rfl) T.n_len (db_of (pv 1))))))))
  (dss_one (ds_ret de_bl))
  dss_nil)
  (dss_one (ds_ret (de_cmp (cd_eq hr.units) (DE.toB (DF.toE (df_lc (own := [("key", 4)]) rfl sc__law_is_same.nd (di_keysZ (de_of (pv 0))) (blkOk_by (by rfl)) (fun _ _ _ _ _ => (dgw_name (i := 4) sc__law_is_same.nd rfl (by first | exact .inl rfl | exact .inr rfl) (by first | exact .inl rfl | exact .inr rfl))) (fun _ _ _ _ _ => (dts_one (dw_pt (dw_or (dt_notInZ (hu_of hr) (de_of (pv 4)) (de_of (pv 1))) (dw_or1 (dt_not (dt_val (cal_N C_rc hr hG (by rfl) 0 (da_cons (de_getZ (hu_of hr) (de_of (pv 0)) (de_of (pv 4)) (fun _ _ => rfl)) (da_cons (de_getZ (hu_of hr) (de_of (pv 1)) (de_of (pv 4)) (fun _ _ => rfl)) da_nil)))))))))) (fun _ _ _ _ _ => (de_of (pv 4)))))) (DE.toB (DF.toE (df_lst da_nil)))))))
  dss_nil)
  (dss_one (ds_ret (de_and (de_not (de_isiT ["list", "tuple", "dict"] (by decide +kernel) (by rfl) T.n_isinstance (db_of (pv 1)) (pa_cons (pe_bltn (v := .ty "list") (by rfl) T.n_list (by decide +kernel) rfl) (pa_cons (pe_bltn (v := .ty "tuple") (by rfl) T.n_tuple (by decide +kernel) rfl) (pa_cons (pe_bltn (v := .ty "dict") (by rfl) T.n_dict (by decide +kernel) rfl) pa_nil))))) (de_one (de_cmp (cd_eq hr.units) (DE.toB (de_reprZ hG hr.units (by rfl) T.n_repr (db_of (pv 0)))) (DE.toB (de_reprZ hG hr.units (by rfl) T.n_repr (db_of (pv 1))))))))))), fun ds q x h => ((fn__law_is_same_8_eq ds q x).mp h).2⟩
theorem ok__law_is_same_9 (F : FnP K "_law_is_same" (top 22) [] f fd) (T : Txt K mg) (C_rc : Cal__law_is_same_8 P w K mg base)  : FnG P w K mg base CX0 9 f fd p__law_is_same (spN K false fn__law_is_same_9) :=
  okN F sc__law_is_same (fun ds q x h => ((fn__law_is_same_9_eq ds q x).mp h).1) fun cdv A outer s H E hr hG => ⟨[], g__law_is_same fn__law_is_same_8, (dss_cons (ds_if (dt_val (de_isiT ["list", "tuple"] (by decide +kernel) (by rfl) T.n_isinstance (db_of (pv 0)) (pa_cons (pe_bltn (v := .ty "list") (by rfl) T.n_list (by decide +kernel) rfl) (pa_cons (pe_bltn (v := .ty "tuple") (by rfl) T.n_tuple (by decide +kernel) rfl) pa_nil))))
  (dss_cons (ds_if (dw_pt (dw_or (dt_not (dt_val (de_isiT ["list", "tuple"] (by decide +kernel) (by rfl) T.n_isinstance (db_of (pv 1)) (pa_cons (pe_bltn (v := .ty "list") (by rfl) T.n_list (by decide +kernel) rfl) (pa_cons (pe_bltn (v := .ty "tuple") (by rfl) T.n_tuple (by decide +kernel) rfl) pa_nil))))) (dw_or1 (dt_cmp (cd_ne hr.units) (DE.toB (de_isi (T := "list") (by rfl) T.n_isinstance (by rfl) T.n_list (by decide +kernel) (db_of (pv 0)) isi_list)) (DE.toB (de_isi (T := "list") (by rfl) T.n_isinstance (by rfl) T.n_list (by decide +kernel) (db_of (pv 1)) isi_list))))))
  (dss_one (ds_ret de_bl))
  dss_nil)
  (dss_one (ds_ret (de_and (de_cmp (cd_eq hr.units) (DE.toB (de_len (by rfl) T.n_len (db_of (pv 0)))) (DE.toB (de_len (by rfl) T.n_len (db_of (pv 1))))) (de_one (de_cmp (cd_eq hr.units) (DE.toB (DF.toE (df_lc (own := [("at", 2), ("it", 3)]) rfl sc__law_is_same.nd (di_enumV (by rfl) T.n_enumerate (pv 0)) (blkOk_by (by rfl)) (fun _ _ _ _ _ => (dgw_tup rfl (dgsw_cons (dgw_name (i := 2) sc__law_is_same.nd rfl (by first | exact .inl rfl | exact .inr rfl) (by first | exact .inl rfl | exact .inr rfl)) (dgsw_cons (dgw_name (i := 3) sc__law_is_same.nd rfl (by first | exact .inl rfl | exact .inr rfl) (by first | exact .inl rfl | exact .inr rfl)) dgsw_nil)))) (fun _ _ _ _ _ => (dts_one (dt_not (dt_val (cal_N C_rc hr hG (by rfl) 0 (da_cons (de_of (pv 3)) (da_cons (de_ix (db_of (pv 1)) (db_of (pv 2))) da_nil))))))) (fun _ _ _ _ _ => (de_of (pv 2)))))) (DE.toB (DF.toE (df_lst da_nil)))))))))
  dss_nil)
  (dss_cons (ds_if (dt_val (de_isi (T := "dict") (by rfl) T.n_isinstance (by rfl) T.n_dict (by decide +kernel) (db_of (pv 0)) isi_dict))
  (dss_cons (ds_if (dw_pt (dw_or (dt_not (dt_val (de_isi (T := "dict") (by rfl) T.n_isinstance (by rfl) T.n_dict (by decide +kernel) (db_of (pv 1)) isi_dict))) (dw_or1 (dt_cmp (cd_ne hr.units) (DE.toB (de_lenZ (by rfl) T.n_len (db_of (pv 0)))) (DE.toB (de_lenZ (by rfl) T.n_len (db_of (pv 1))))))))
  (dss_one (ds_ret de_bl))
  dss_nil)
  (dss_one (ds_ret (de_cmp (cd_eq hr.units) (DE.toB (DF.toE (df_lc (own := [("key", 4)]) rfl sc__law_is_same.nd (di_keysZ (de_of (pv 0))) (blkOk_by (by rfl)) (fun _ _ _ _ _ => (dgw_name (i := 4) sc__law_is_same.nd rfl (by first | exact .inl rfl | exact .inr rfl) (by first | exact .inl rfl | exact .inr rfl))) (fun _ _ _ _ _ => (dts_one (dw_pt (dw_or (dt_notInZ (hu_of hr) (de_of (pv 4)) (de_of (pv 1))) (dw_or1 (dt_not (dt_val (cal_N C_rc hr hG (by rfl) 0 (da_cons (de_getZ (hu_of hr) (de_of (pv 0)) (de_of (pv 4)) (fun _ _ => rfl)) (da_cons (de_getZ (hu_of hr) (de_of (pv 1)) (de_of (pv 4)) (fun _ _ => rfl)) da_nil)))))))))) (fun _ _ _ _ _ => (de_of (pv 4)))))) (DE.toB (DF.toE (df_lst da_nil)))))))
  dss_nil)
  (dss_one (ds_ret (de_and (de_not (de_isiT ["list", "tuple", "dict"] (by decide +kernel) (by rfl) T.n_isinstance (db_of (pv 1)) (pa_cons (pe_bltn (v := .ty "list") (by rfl) T.n_list (by decide +kernel) rfl) (pa_cons (pe_bltn (v := .ty "tuple") (by rfl) T.n_tuple (by decide +kernel) rfl) (pa_cons (pe_bltn (v := .ty "dict") (by rfl) T.n_dict (by decide +kernel) rfl) pa_nil))))) (de_one (de_cmp (cd_eq hr.units) (DE.toB (de_reprZ hG hr.units (by rfl) T.n_repr (db_of (pv 0)))) (DE.toB (de_reprZ hG hr.units (by rfl) T.n_repr (db_of (pv 1))))))))))), fun ds q x h => ((fn__law_is_same_9_eq ds q x).mp h).2⟩
theorem ok__law_by_position (F : FnP K "_law_by_position" (top 23) [] f fd) (T : Txt K mg) (M_BadClass : Mkr P w K mg base "BadClass") (M_BadCount : Mkr P w K mg base "BadCount") (M_BadFactor : Mkr P w K mg base "BadFactor") (M_BadFormula : Mkr P w K mg base "BadFormula") (M_BadGrowth : Mkr P w K mg base "BadGrowth") (M_BadLine : Mkr P w K mg base "BadLine") (M_BadNumber : Mkr P w K mg base "BadNumber") (M_BadParameter : Mkr P w K mg base "BadParameter") (M_BadPlace : Mkr P w K mg base "BadPlace") (M_BadPolynomial : Mkr P w K mg base "BadPolynomial") (M_BadRule : Mkr P w K mg base "BadRule") (M_BadShift : Mkr P w K mg base "BadShift") (M_NoFormula : Mkr P w K mg base "NoFormula") (M_OtherRoot : Mkr P w K mg base "OtherRoot") (M_ZeroMiddle : Mkr P w K mg base "ZeroMiddle") : FnG P w K mg base CX0 3 f fd p__law_by_position (spN K false fn__law_by_position) :=
  okN F sc__law_by_position (fun ds q x h => ((fn__law_by_position_eq ds q x).mp h).1) fun cdv A outer s H E hr hG => ⟨[], g__law_by_position, (dss_cons (ds_set (i := 1) sc__law_by_position.nd rfl (by first | exact .inl rfl | exact .inr rfl) (DF.toE (df_lst (da_cons (de_err M_BadNumber hr (by decide) hG (by rfl) (de_of (pv 0))) (da_cons (de_err M_OtherRoot hr (by decide) hG (by rfl) (de_of (pv 0))) (da_cons (de_err M_BadPolynomial hr (by decide) hG (by rfl) (de_of (pv 0))) (da_cons (de_err M_BadRule hr (by decide) hG (by rfl) (de_of (pv 0))) (da_cons (de_err M_BadPlace hr (by decide) hG (by rfl) (de_of (pv 0))) (da_cons (de_err M_BadCount hr (by decide) hG (by rfl) (de_of (pv 0))) (da_cons (de_err M_BadFormula hr (by decide) hG (by rfl) (de_of (pv 0))) da_nil))))))))))
  (dss_cons (ds_set (i := 1) sc__law_by_position.nd rfl (by first | exact .inl rfl | exact .inr rfl) (de_add (db_of (pv 1)) (DE.toB (DF.toE (df_lst (da_cons (de_err M_NoFormula hr (by decide) hG (by rfl) (de_of (pv 0))) (da_cons (de_err M_BadClass hr (by decide) hG (by rfl) (de_of (pv 0))) (da_cons (de_err M_BadGrowth hr (by decide) hG (by rfl) (de_of (pv 0))) (da_cons (de_err M_BadLine hr (by decide) hG (by rfl) (de_of (pv 0))) (da_cons (de_err M_ZeroMiddle hr (by decide) hG (by rfl) (de_of (pv 0))) (da_cons (de_err M_BadShift hr (by decide) hG (by rfl) (de_of (pv 0))) da_nil)))))))))))
  (dss_one (ds_ret (de_add (db_of (pv 1)) (DE.toB (DF.toE (df_lst (da_cons (de_err M_BadFactor hr (by decide) hG (by rfl) (de_of (pv 0))) (da_cons (de_err M_BadParameter hr (by decide) hG (by rfl) (de_of (pv 0))) da_nil)))))))))), fun ds q x h => ((fn__law_by_position_eq ds q x).mp h).2⟩
theorem ok__law_by_name (F : FnP K "_law_by_name" (top 24) [] f fd) (T : Txt K mg) (MK_BadClass : MkrK P w K mg base "BadClass") (MK_BadCount : MkrK P w K mg base "BadCount") (MK_BadFactor : MkrK P w K mg base "BadFactor") (MK_BadFormula : MkrK P w K mg base "BadFormula") (MK_BadGrowth : MkrK P w K mg base "BadGrowth") (MK_BadLine : MkrK P w K mg base "BadLine") (MK_BadNumber : MkrK P w K mg base "BadNumber") (MK_BadParameter : MkrK P w K mg base "BadParameter") (MK_BadPlace : MkrK P w K mg base "BadPlace") (MK_BadPolynomial : MkrK P w K mg base "BadPolynomial") (MK_BadRule : MkrK P w K mg base "BadRule") (MK_BadShift : MkrK P w K mg base "BadShift") (MK_NoFormula : MkrK P w K mg base "NoFormula") (MK_OtherRoot : MkrK P w K mg base "OtherRoot") (MK_ZeroMiddle : MkrK P w K mg base "ZeroMiddle") : FnG P w K mg base CX0 3 f fd p__law_by_name (spN K false fn__law_by_name) :=
  okN F sc__law_by_name (fun ds q x h => ((fn__law_by_name_eq ds q x).mp h).1) fun cdv A outer s H E hr hG => ⟨[], g__law_by_name, (dss_cons (ds_set (i := 1) sc__law_by_name.nd rfl (by first | exact .inl rfl | exact .inr rfl) (DF.toE (df_lst (da_cons (de_errK MK_BadNumber hr (by decide) hG (by rfl) (dk_cons (de_of (pv 0)) dk_nil)) (da_cons (de_errK MK_OtherRoot hr (by decide) hG (by rfl) (dk_cons (de_of (pv 0)) dk_nil)) (da_cons (de_errK MK_BadPolynomial hr (by decide) hG (by rfl) (dk_cons (de_of (pv 0)) dk_nil)) (da_cons (de_errK MK_BadRule hr (by decide) hG (by rfl) (dk_cons (de_of (pv 0)) dk_nil)) (da_cons (de_errK MK_BadPlace hr (by decide) hG (by rfl) (dk_cons (de_of (pv 0)) dk_nil)) da_nil))))))))
  (dss_cons (ds_set (i := 1) sc__law_by_name.nd rfl (by first | exact .inl rfl | exact .inr rfl) (de_add (db_of (pv 1)) (DE.toB (DF.toE (df_lst (da_cons (de_errK MK_BadCount hr (by decide) hG (by rfl) (dk_cons (de_of (pv 0)) dk_nil)) (da_cons (de_errK MK_BadFormula hr (by decide) hG (by rfl) (dk_cons (de_of (pv 0)) dk_nil)) (da_cons (de_errK MK_NoFormula hr (by decide) hG (by rfl) (dk_cons (de_of (pv 0)) dk_nil)) (da_cons (de_errK MK_BadClass hr (by decide) hG (by rfl) (dk_cons (de_of (pv 0)) dk_nil)) da_nil)))))))))
  (dss_cons (ds_set (i := 1) sc__law_by_name.nd rfl (by first | exact .inl rfl | exact .inr rfl) (de_add (db_of (pv 1)) (DE.toB (DF.toE (df_lst (da_cons (de_errK MK_BadGrowth hr (by decide) hG (by rfl) (dk_cons (de_of (pv 0)) dk_nil)) (da_cons (de_errK MK_BadLine hr (by decide) hG (by rfl) (dk_cons (de_of (pv 0)) dk_nil)) (da_cons (de_errK MK_ZeroMiddle hr (by decide) hG (by rfl) (dk_cons (de_of (pv 0)) dk_nil)) (da_cons (de_errK MK_BadShift hr (by decide) hG (by rfl) (dk_cons (de_of (pv 0)) dk_nil)) da_nil)))))))))
  (dss_one (ds_ret (de_add (db_of (pv 1)) (DE.toB (DF.toE (df_lst (da_cons (de_errK MK_BadFactor hr (by decide) hG (by rfl) (dk_cons (de_of (pv 0)) dk_nil)) (da_cons (de_errK MK_BadParameter hr (by decide) hG (by rfl) (dk_cons (de_of (pv 0)) dk_nil)) da_nil))))))))))), fun ds q x h => ((fn__law_by_name_eq ds q x).mp h).2⟩
theorem ok__law_carried (F : FnP K "_law_carried" (top 25) [] f fd) (T : Txt K mg)  : FnG P w K mg base CX0 1 f fd p__law_carried (spN K false fn__law_carried) :=
  okN F sc__law_carried (fun ds q x h => ((fn__law_carried_eq ds q x).mp h).1) fun cdv A outer s H E hr hG => ⟨[], g__law_carried, (dss_cons (ds_set (i := 1) sc__law_carried.nd rfl (by first | exact .inl rfl | exact .inr rfl) (DF.toE (df_lst (da_cons (de_thing (errs := errL) ⟨fun n hn => (T.err n hn).x⟩ (DE.toB (de_ix (db_of (pv 0)) (de_int).toB))) (da_cons (de_thing (errs := errL) ⟨fun n hn => (T.err n hn).x⟩ (DE.toB (de_ix (db_of (pv 0)) (de_int).toB))) (da_cons (de_thing (errs := errL) ⟨fun n hn => (T.err n hn).x⟩ (DE.toB (de_ix (db_of (pv 0)) (de_int).toB))) (da_cons (de_thing (errs := errL) ⟨fun n hn => (T.err n hn).x⟩ (DE.toB (de_ix (db_of (pv 0)) (de_int).toB))) (da_cons (de_thing (errs := errL) ⟨fun n hn => (T.err n hn).x⟩ (DE.toB (de_ix (db_of (pv 0)) (de_int).toB))) (da_cons (de_thing (errs := errL) ⟨fun n hn => (T.err n hn).x⟩ (DE.toB (de_ix (db_of (pv 0)) (de_int).toB))) (da_cons (de_thing (errs := errL) ⟨fun n hn => (T.err n hn).x⟩ (DE.toB (de_ix (db_of (pv 0)) (de_int).toB))) da_nil))))))))))
  (dss_cons (ds_set (i := 1) sc__law_carried.nd rfl (by first | exact .inl rfl | exact .inr rfl) (de_add (db_of (pv 1)) (DE.toB (DF.toE (df_lst (da_cons (de_thing (errs := errL) ⟨fun n hn => (T.err n hn).x⟩ (DE.toB (de_ix (db_of (pv 0)) (de_int).toB))) (da_cons (de_thing (errs := errL) ⟨fun n hn => (T.err n hn).x⟩ (DE.toB (de_ix (db_of (pv 0)) (de_int).toB))) (da_cons (de_thing (errs := errL) ⟨fun n hn => (T.err n hn).x⟩ (DE.toB (de_ix (db_of (pv 0)) (de_int).toB))) (da_cons (de_thing (errs := errL) ⟨fun n hn => (T.err n hn).x⟩ (DE.toB (de_ix (db_of (pv 0)) (de_int).toB))) (da_cons (de_thing (errs := errL) ⟨fun n hn => (T.err n hn).x⟩ (DE.toB (de_ix (db_of (pv 0)) (de_int).toB))) (da_cons (de_thing (errs := errL) ⟨fun n hn => (T.err n hn).x⟩ (DE.toB (de_ix (db_of (pv 0)) (de_int).toB))) da_nil)))))))))))
  (dss_one (ds_ret (de_add (db_of (pv 1)) (DE.toB (DF.toE (df_lst (da_cons (de_thing (errs := errL) ⟨fun n hn => (T.err n hn).x⟩ (DE.toB (de_ix (db_of (pv 0)) (de_int).toB))) (da_cons (de_thing (errs := errL) ⟨fun n hn => (T.err n hn).x⟩ (DE.toB (de_ix (db_of (pv 0)) (de_int).toB))) da_nil)))))))))), fun ds q x h => ((fn__law_carried_eq ds q x).mp h).2⟩
theorem ok__law_kinds (F : FnP K "_law_kinds" (top 26) [] f fd) (T : Txt K mg)  : FnG P w K mg base CX0 1 f fd p__law_kinds (spN K false fn__law_kinds) :=
  okN F sc__law_kinds (fun ds q x h => ((fn__law_kinds_eq ds q x).mp h).1) fun cdv A outer s H E hr hG => ⟨[], g__law_kinds, (dss_cons (ds_set (i := 1) sc__law_kinds.nd rfl (by first | exact .inl rfl | exact .inr rfl) (DF.toE (df_lst (da_cons (de_isa (errs := errL) (b := fun n => isErr n "BadNumber") ⟨fun n hn => (T.err n hn).x⟩ (.own _) (fun n hn => (T.exm n hn "BadNumber" (by decide +kernel)).2) (by rfl) T.n_isinstance (db_of (pv 0)) (pe_glob (by rfl) (T.cg "BadNumber" (by decide +kernel)) rfl)) (da_cons (de_isa (errs := errL) (b := fun n => isErr n "OtherRoot") ⟨fun n hn => (T.err n hn).x⟩ (.own _) (fun n hn => (T.exm n hn "OtherRoot" (by decide +kernel)).2) (by rfl) T.n_isinstance (db_of (pv 0)) (pe_glob (by rfl) (T.cg "OtherRoot" (by decide +kernel)) rfl)) (da_cons (de_isa (errs := errL) (b := fun n => isErr n "BadPolynomial") ⟨fun n hn => (T.err n hn).x⟩ (.own _) (fun n hn => (T.exm n hn "BadPolynomial" (by decide +kernel)).2) (by rfl) T.n_isinstance (db_of (pv 0)) (pe_glob (by rfl) (T.cg "BadPolynomial" (by decide +kernel)) rfl)) da_nil))))))
  (dss_cons (ds_set (i := 1) sc__law_kinds.nd rfl (by first | exact .inl rfl | exact .inr rfl) (de_add (db_of (pv 1)) (DE.toB (DF.toE (df_lst (da_cons (de_isa (errs := errL) (b := fun n => isErr n "BadRule") ⟨fun n hn => (T.err n hn).x⟩ (.own _) (fun n hn => (T.exm n hn "BadRule" (by decide +kernel)).2) (by rfl) T.n_isinstance (db_of (pv 0)) (pe_glob (by rfl) (T.cg "BadRule" (by decide +kernel)) rfl)) (da_cons (de_isa (errs := errL) (b := fun n => isErr n "BadPlace") ⟨fun n hn => (T.err n hn).x⟩ (.own _) (fun n hn => (T.exm n hn "BadPlace" (by decide +kernel)).2) (by rfl) T.n_isinstance (db_of (pv 0)) (pe_glob (by rfl) (T.cg "BadPlace" (by decide +kernel)) rfl)) (da_cons (de_isa (errs := errL) (b := fun n => isErr n "BadCount") ⟨fun n hn => (T.err n hn).x⟩ (.own _) (fun n hn => (T.exm n hn "BadCount" (by decide +kernel)).2) (by rfl) T.n_isinstance (db_of (pv 0)) (pe_glob (by rfl) (T.cg "BadCount" (by decide +kernel)) rfl)) da_nil))))))))
  (dss_cons (ds_set (i := 1) sc__law_kinds.nd rfl (by first | exact .inl rfl | exact .inr rfl) (de_add (db_of (pv 1)) (DE.toB (DF.toE (df_lst (da_cons (de_isa (errs := errL) (b := fun n => isErr n "BadFormula") ⟨fun n hn => (T.err n hn).x⟩ (.own _) (fun n hn => (T.exm n hn "BadFormula" (by decide +kernel)).2) (by rfl) T.n_isinstance (db_of (pv 0)) (pe_glob (by rfl) (T.cg "BadFormula" (by decide +kernel)) rfl)) (da_cons (de_isa (errs := errL) (b := fun n => isErr n "NoFormula") ⟨fun n hn => (T.err n hn).x⟩ (.own _) (fun n hn => (T.exm n hn "NoFormula" (by decide +kernel)).2) (by rfl) T.n_isinstance (db_of (pv 0)) (pe_glob (by rfl) (T.cg "NoFormula" (by decide +kernel)) rfl)) (da_cons (de_isa (errs := errL) (b := fun n => isErr n "BadClass") ⟨fun n hn => (T.err n hn).x⟩ (.own _) (fun n hn => (T.exm n hn "BadClass" (by decide +kernel)).2) (by rfl) T.n_isinstance (db_of (pv 0)) (pe_glob (by rfl) (T.cg "BadClass" (by decide +kernel)) rfl)) da_nil))))))))
  (dss_cons (ds_set (i := 1) sc__law_kinds.nd rfl (by first | exact .inl rfl | exact .inr rfl) (de_add (db_of (pv 1)) (DE.toB (DF.toE (df_lst (da_cons (de_isa (errs := errL) (b := fun n => isErr n "BadGrowth") ⟨fun n hn => (T.err n hn).x⟩ (.own _) (fun n hn => (T.exm n hn "BadGrowth" (by decide +kernel)).2) (by rfl) T.n_isinstance (db_of (pv 0)) (pe_glob (by rfl) (T.cg "BadGrowth" (by decide +kernel)) rfl)) (da_cons (de_isa (errs := errL) (b := fun n => isErr n "BadLine") ⟨fun n hn => (T.err n hn).x⟩ (.own _) (fun n hn => (T.exm n hn "BadLine" (by decide +kernel)).2) (by rfl) T.n_isinstance (db_of (pv 0)) (pe_glob (by rfl) (T.cg "BadLine" (by decide +kernel)) rfl)) (da_cons (de_isa (errs := errL) (b := fun n => isErr n "ZeroMiddle") ⟨fun n hn => (T.err n hn).x⟩ (.own _) (fun n hn => (T.exm n hn "ZeroMiddle" (by decide +kernel)).2) (by rfl) T.n_isinstance (db_of (pv 0)) (pe_glob (by rfl) (T.cg "ZeroMiddle" (by decide +kernel)) rfl)) da_nil))))))))
  (dss_one (ds_ret (de_add (db_of (pv 1)) (DE.toB (DF.toE (df_lst (da_cons (de_isa (errs := errL) (b := fun n => isErr n "BadShift") ⟨fun n hn => (T.err n hn).x⟩ (.own _) (fun n hn => (T.exm n hn "BadShift" (by decide +kernel)).2) (by rfl) T.n_isinstance (db_of (pv 0)) (pe_glob (by rfl) (T.cg "BadShift" (by decide +kernel)) rfl)) (da_cons (de_isa (errs := errL) (b := fun n => isErr n "BadFactor") ⟨fun n hn => (T.err n hn).x⟩ (.own _) (fun n hn => (T.exm n hn "BadFactor" (by decide +kernel)).2) (by rfl) T.n_isinstance (db_of (pv 0)) (pe_glob (by rfl) (T.cg "BadFactor" (by decide +kernel)) rfl)) (da_cons (de_isa (errs := errL) (b := fun n => isErr n "BadParameter") ⟨fun n hn => (T.err n hn).x⟩ (.own _) (fun n hn => (T.exm n hn "BadParameter" (by decide +kernel)).2) (by rfl) T.n_isinstance (db_of (pv 0)) (pe_glob (by rfl) (T.cg "BadParameter" (by decide +kernel)) rfl)) da_nil))))))))))))), fun ds q x h => ((fn__law_kinds_eq ds q x).mp h).2⟩
theorem ok__law_kindsE (F : FnP K "_law_kinds" (top 26) [] f fd) (T : Txt K mg) : ∀ n ∈ errL, ∀ (a dx : Addr) (oe : Obj), Zc (.ref (He.ga K n)) (some dx) oe → (∃ vs, oe.data = .fields vs) → FnE P w K mg base 1 f fd p__law_kindsE a dx oe (hv__law_kindsE n) :=
  fun n hn a dx oe hz hf => okE F sc__law_kinds rfl fun cdv A outer s H hd => ⟨[], g__law_kindsE n a, (dss_cons (ds_set (i := 1) sc__law_kinds.nd rfl (by first | exact .inl rfl | exact .inr rfl) (DF.toE (df_lst (da_cons (de_isaE (T.err n hn).x hz hf (T.exm n hn "BadNumber" (by decide +kernel)).2 hd (by rfl) T.n_isinstance (pv 0) (pe_glob (by rfl) (T.cg "BadNumber" (by decide +kernel)) rfl)) (da_cons (de_isaE (T.err n hn).x hz hf (T.exm n hn "OtherRoot" (by decide +kernel)).2 hd (by rfl) T.n_isinstance (pv 0) (pe_glob (by rfl) (T.cg "OtherRoot" (by decide +kernel)) rfl)) (da_cons (de_isaE (T.err n hn).x hz hf (T.exm n hn "BadPolynomial" (by decide +kernel)).2 hd (by rfl) T.n_isinstance (pv 0) (pe_glob (by rfl) (T.cg "BadPolynomial" (by decide +kernel)) rfl)) da_nil))))))
  (dss_cons (ds_set (i := 1) sc__law_kinds.nd rfl (by first | exact .inl rfl | exact .inr rfl) (de_add (db_of (pv 1)) (DE.toB (DF.toE (df_lst (da_cons (de_isaE (T.err n hn).x hz hf (T.exm n hn "BadRule" (by decide +kernel)).2 hd (by rfl) T.n_isinstance (pv 0) (pe_glob (by rfl) (T.cg "BadRule" (by decide +kernel)) rfl)) (da_cons (de_isaE (T.err n hn).x hz hf (T.exm n hn "BadPlace" (by decide +kernel)).2 hd (by rfl) T.n_isinstance (pv 0) (pe_glob (by rfl) (T.cg "BadPlace" (by decide +kernel)) rfl)) (da_cons (de_isaE (T.err n hn).x hz hf (T.exm n hn "BadCount" (by decide +kernel)).2 hd (by rfl) T.n_isinstance (pv 0) (pe_glob (by rfl) (T.cg "BadCount" (by decide +kernel)) rfl)) da_nil))))))))
  (dss_cons (ds_set (i := 1) sc__law_kinds.nd rfl (by first | exact .inl rfl | exact .inr rfl) (de_add (db_of (pv 1)) (DE.toB (DF.toE (df_lst (da_cons (de_isaE (T.err n hn).x hz hf (T.exm n hn "BadFormula" (by decide +kernel)).2 hd (by rfl) T.n_isinstance (pv 0) (pe_glob (by rfl) (T.cg "BadFormula" (by decide +kernel)) rfl)) (da_cons (de_isaE (T.err n hn).x hz hf (T.exm n hn "NoFormula" (by decide +kernel)).2 hd (by rfl) T.n_isinstance (pv 0) (pe_glob (by rfl) (T.cg "NoFormula" (by decide +kernel)) rfl)) (da_cons (de_isaE (T.err n hn).x hz hf (T.exm n hn "BadClass" (by decide +kernel)).2 hd (by rfl) T.n_isinstance (pv 0) (pe_glob (by rfl) (T.cg "BadClass" (by decide +kernel)) rfl)) da_nil))))))))
  (dss_cons (ds_set (i := 1) sc__law_kinds.nd rfl (by first | exact .inl rfl | exact .inr rfl) (de_add (db_of (pv 1)) (DE.toB (DF.toE (df_lst (da_cons (de_isaE (T.err n hn).x hz hf (T.exm n hn "BadGrowth" (by decide +kernel)).2 hd (by rfl) T.n_isinstance (pv 0) (pe_glob (by rfl) (T.cg "BadGrowth" (by decide +kernel)) rfl)) (da_cons (de_isaE (T.err n hn).x hz hf (T.exm n hn "BadLine" (by decide +kernel)).2 hd (by rfl) T.n_isinstance (pv 0) (pe_glob (by rfl) (T.cg "BadLine" (by decide +kernel)) rfl)) (da_cons (de_isaE (T.err n hn).x hz hf (T.exm n hn "ZeroMiddle" (by decide +kernel)).2 hd (by rfl) T.n_isinstance (pv 0) (pe_glob (by rfl) (T.cg "ZeroMiddle" (by decide +kernel)) rfl)) da_nil))))))))
  (dss_one (ds_ret (de_add (db_of (pv 1)) (DE.toB (DF.toE (df_lst (da_cons (de_isaE (T.err n hn).x hz hf (T.exm n hn "BadShift" (by decide +kernel)).2 hd (by rfl) T.n_isinstance (pv 0) (pe_glob (by rfl) (T.cg "BadShift" (by decide +kernel)) rfl)) (da_cons (de_isaE (T.err n hn).x hz hf (T.exm n hn "BadFactor" (by decide +kernel)).2 hd (by rfl) T.n_isinstance (pv 0) (pe_glob (by rfl) (T.cg "BadFactor" (by decide +kernel)) rfl)) (da_cons (de_isaE (T.err n hn).x hz hf (T.exm n hn "BadParameter" (by decide +kernel)).2 hd (by rfl) T.n_isinstance (pv 0) (pe_glob (by rfl) (T.cg "BadParameter" (by decide +kernel)) rfl)) da_nil))))))))))))), hvp__law_kindsE n a⟩
theorem ok__law_is_own (F : FnP K "_law_is_own" (top 27) [] f fd) (T : Txt K mg) (C__law_kinds : Cal__law_kinds P w K mg base) : FnG P w K mg base CX0 2 f fd p__law_is_own (spN K false fn__law_is_own) :=
  okN F sc__law_is_own (fun ds q x h => ((fn__law_is_own_eq ds q x).mp h).1) fun cdv A outer s H E hr hG => ⟨[], g__law_is_own, (dss_cons (ds_if (dw_pt (dw_or (dt_not (dt_val (de_isa (errs := errL) (b := fun n => isErr n "StepError") ⟨fun n hn => (T.err n hn).x⟩ (.own _) (fun n hn => (T.exm n hn "StepError" (by decide +kernel)).2) (by rfl) T.n_isinstance (db_of (pv 1)) (pe_glob (by rfl) (T.cg "StepError" (by decide +kernel)) rfl)))) (dw_or1 (dt_not (dt_val (de_isa (errs := errL) (b := fun _ => true) ⟨fun n hn => (T.err n hn).x⟩ (.ty "Exception") T.bx (by rfl) T.n_isinstance (db_of (pv 1)) (pe_bltn (v := .ty "Exception") (by rfl) T.n_Exception (by decide +kernel) rfl)))))))
  (dss_one (ds_ret de_bl))
  dss_nil)
  (dss_cons (ds_if (dt_val (de_isaQ (errs := errL) (b := fun _ => false) ⟨fun n hn => (T.err n hn).x⟩ (cls_ty ["ValueError", "TypeError", "LookupError", "ArithmeticError", "RuntimeError", "AttributeError"]) T.bq (by rfl) T.n_isinstance (db_of (pv 1)) (pa_cons (pe_bltn (v := .ty "ValueError") (by rfl) T.n_ValueError (by decide +kernel) rfl) (pa_cons (pe_bltn (v := .ty "TypeError") (by rfl) T.n_TypeError (by decide +kernel) rfl) (pa_cons (pe_bltn (v := .ty "LookupError") (by rfl) T.n_LookupError (by decide +kernel) rfl) (pa_cons (pe_bltn (v := .ty "ArithmeticError") (by rfl) T.n_ArithmeticError (by decide +kernel) rfl) (pa_cons (pe_bltn (v := .ty "RuntimeError") (by rfl) T.n_RuntimeError (by decide +kernel) rfl) (pa_cons (pe_bltn (v := .ty "AttributeError") (by rfl) T.n_AttributeError (by decide +kernel) rfl) pa_nil))))))))
  (dss_one (ds_ret de_bl))
  dss_nil)
  (dss_one (ds_ret (de_cmp (cd_eq hr.units) (DE.toB (cal_N C__law_kinds hr hG (by rfl) 0 (da_cons (de_of (pv 1)) da_nil))) (DE.toB (DF.toE (df_lc (own := [("place", 2)]) rfl sc__law_is_own.nd (di_range1 (by rfl) T.n_range de_int) (blkOk_by (by rfl)) (fun _ _ _ _ _ => (dgw_name (i := 2) sc__law_is_own.nd rfl (by first | exact .inl rfl | exact .inr rfl) (by first | exact .inl rfl | exact .inr rfl))) (fun _ _ _ _ _ => dts_nil) (fun _ _ _ _ _ => (de_cmp (cd_eq hr.units) (db_of (pv 2)) (db_of (pv 0)))))))))))), fun ds q x h => ((fn__law_is_own_eq ds q x).mp h).2⟩
theorem ok__law_raise (F : FnP K "_law_raise" (top 28) [] f fd) (T : Txt K mg) (M_BadClass : Mkr P w K mg base "BadClass") (M_BadFormula : Mkr P w K mg base "BadFormula") (M_BadLine : Mkr P w K mg base "BadLine") (M_BadNumber : Mkr P w K mg base "BadNumber") (M_BadParameter : Mkr P w K mg base "BadParameter") (M_BadPlace : Mkr P w K mg base "BadPlace") (M_BadPolynomial : Mkr P w K mg base "BadPolynomial") (M_BadShift : Mkr P w K mg base "BadShift") (MK_BadCount : MkrK P w K mg base "BadCount") (MK_BadFactor : MkrK P w K mg base "BadFactor") (MK_BadGrowth : MkrK P w K mg base "BadGrowth") (MK_BadRule : MkrK P w K mg base "BadRule") (MK_NoFormula : MkrK P w K mg base "NoFormula") (MK_OtherRoot : MkrK P w K mg base "OtherRoot") (MK_ZeroMiddle : MkrK P w K mg base "ZeroMiddle") : FnG P w K mg base (L2.CX P w) 3 f fd p__law_raise (spN K false fn__law_raise) :=
  okNx F sc__law_raise (fun ds q x h => ((fn__law_raise_eq ds q x).mp h).1) fun cdv A outer s H E hr hG tk hp => ⟨[], g__law_raise, (dss_cons (ds_if (dt_cmp (cd_eq hr.units) (db_of (pv 0)) (de_int).toB)
  (dss_one (ds_raise rfl tk M_BadNumber hr hG (by rfl) (de_of (pv 1))))
  dss_nil)
  (dss_cons (ds_if (dt_cmp (cd_eq hr.units) (db_of (pv 0)) (de_int).toB)
  (dss_one (ds_raiseK rfl tk MK_OtherRoot hr hG (by rfl) (dk_cons (de_of (pv 1)) dk_nil)))
  dss_nil)
  (dss_cons (ds_if (dt_cmp (cd_eq hr.units) (db_of (pv 0)) (de_int).toB)
  (dss_one (ds_raise rfl tk M_BadPolynomial hr hG (by rfl) (de_of (pv 1))))
  dss_nil)
  (dss_cons (ds_if (dt_cmp (cd_eq hr.units) (db_of (pv 0)) (de_int).toB)
  (dss_one (ds_raiseK rfl tk MK_BadRule hr hG (by rfl) (dk_cons (de_of (pv 1)) dk_nil)))
  dss_nil)
  (dss_cons (ds_if (dt_cmp (cd_eq hr.units) (db_of (pv 0)) (de_int).toB)
  (dss_one (ds_raise rfl tk M_BadPlace hr hG (by rfl) (de_of (pv 1))))
  dss_nil)
  (dss_cons (ds_if (dt_cmp (cd_eq hr.units) (db_of (pv 0)) (de_int).toB)
  (dss_one (ds_raiseK rfl tk MK_BadCount hr hG (by rfl) (dk_cons (de_of (pv 1)) dk_nil)))
  dss_nil)
  (dss_cons (ds_if (dt_cmp (cd_eq hr.units) (db_of (pv 0)) (de_int).toB)
  (dss_one (ds_raise rfl tk M_BadFormula hr hG (by rfl) (de_of (pv 1))))
  dss_nil)
  (dss_cons (ds_if (dt_cmp (cd_eq hr.units) (db_of (pv 0)) (de_int).toB)
  (dss_one (ds_raiseK rfl tk MK_NoFormula hr hG (by rfl) (dk_cons (de_of (pv 1)) dk_nil)))
  dss_nil)
  (dss_cons (ds_if (dt_cmp (cd_eq hr.units) (db_of (pv 0)) (de_int).toB)
  (dss_one (ds_raise rfl tk M_BadClass hr hG (by rfl) (de_of (pv 1))))
  dss_nil)
  (dss_cons (ds_if (dt_cmp (cd_eq hr.units) (db_of (pv 0)) (de_int).toB)
  (dss_one (ds_raiseK rfl tk MK_BadGrowth hr hG (by rfl) (dk_cons (de_of (pv 1)) dk_nil)))
  dss_nil)
  (dss_cons (ds_if (dt_cmp (cd_eq hr.units) (db_of (pv 0)) (de_int).toB)
  (dss_one (ds_raise rfl tk M_BadLine hr hG (by rfl) (de_of (pv 1))))
  dss_nil)
  (dss_cons (ds_if (dt_cmp (cd_eq hr.units) (db_of (pv 0)) (de_int).toB)
  (dss_one (ds_raiseK rfl tk MK_ZeroMiddle hr hG (by rfl) (dk_cons (de_of (pv 1)) dk_nil)))
  dss_nil)
  (dss_cons (ds_if (dt_cmp (cd_eq hr.units) (db_of (pv 0)) (de_int).toB)
  (dss_one (ds_raise rfl tk M_BadShift hr hG (by rfl) (de_of (pv 1))))
  dss_nil)
  (dss_cons (ds_if (dt_cmp (cd_eq hr.units) (db_of (pv 0)) (de_int).toB)
  (dss_one (ds_raiseK rfl tk MK_BadFactor hr hG (by rfl) (dk_cons (de_of (pv 1)) dk_nil)))
  dss_nil)
  (dss_one (ds_raise rfl tk M_BadParameter hr hG (by rfl) (de_of (pv 1)))))))))))))))))), fun ds q x h => ((fn__law_raise_eq ds q x).mp h).2⟩
theorem ok__law_caught (F : FnP K "_law_caught" (top 29) [] f fd) (T : Txt K mg) (C__law_raise : Cal__law_raise P w K mg base) : FnG P w K mg base CX0 4 f fd p__law_caught (spN K false fn__law_caught) :=
  okN F sc__law_caught (fun ds q x h => ((fn__law_caught_eq ds q x).mp h).1) fun cdv A outer s H E hr hG => ⟨[], g__law_caught, (dss_cons (ds_try rfl rfl sc__law_caught.nd (fun E pn xe tk hp => (dss_one (ds_expr (calX_N C__law_raise tk hr hG (by rfl) 0 (da_cons (de_of (pv 0)) (da_cons (de_of (pv 1)) da_nil))))))
  (HC.cons (x := "NoFormula") (C := He.ga K "NoFormula") (i := 2) (mt := fun n => isErr n "NoFormula") (hv := fun n t => (.tup [(.int 7), t])) ⟨by rfl, by decide +kernel, .inl (T.cg _ (by decide +kernel))⟩ rfl rfl (fun n hn => (T.exm n hn _ (by decide +kernel)).1) (fun n hn a dx oe pn t hz hf => (he_tup (hes_cons (he_k pe_int fun _ => .int _) (hes_cons (he_thing (T.err n hn).x hz hf (pv 2)) hes_nil))))
  (HC.cons (x := "BadNumber") (C := He.ga K "BadNumber") (i := 2) (mt := fun n => isErr n "BadNumber") (hv := fun n t => (.tup [(.int 0), t])) ⟨by rfl, by decide +kernel, .inl (T.cg _ (by decide +kernel))⟩ rfl rfl (fun n hn => (T.exm n hn _ (by decide +kernel)).1) (fun n hn a dx oe pn t hz hf => (he_tup (hes_cons (he_k pe_int fun _ => .int _) (hes_cons (he_thing (T.err n hn).x hz hf (pv 2)) hes_nil))))
  (HC.cons (x := "ZeroMiddle") (C := He.ga K "ZeroMiddle") (i := 2) (mt := fun n => isErr n "ZeroMiddle") (hv := fun n t => (.tup [(.int 11), t])) ⟨by rfl, by decide +kernel, .inl (T.cg _ (by decide +kernel))⟩ rfl rfl (fun n hn => (T.exm n hn _ (by decide +kernel)).1) (fun n hn a dx oe pn t hz hf => (he_tup (hes_cons (he_k pe_int fun _ => .int _) (hes_cons (he_thing (T.err n hn).x hz hf (pv 2)) hes_nil))))
  (HC.cons (x := "BadRule") (C := He.ga K "BadRule") (i := 2) (mt := fun n => isErr n "BadRule") (hv := fun n t => (.tup [(.int 3), t])) ⟨by rfl, by decide +kernel, .inl (T.cg _ (by decide +kernel))⟩ rfl rfl (fun n hn => (T.exm n hn _ (by decide +kernel)).1) (fun n hn a dx oe pn t hz hf => (he_tup (hes_cons (he_k pe_int fun _ => .int _) (hes_cons (he_thing (T.err n hn).x hz hf (pv 2)) hes_nil))))
  (HC.cons (x := "BadParameter") (C := He.ga K "BadParameter") (i := 2) (mt := fun n => isErr n "BadParameter") (hv := fun n t => (.tup [(.int 14), t])) ⟨by rfl, by decide +kernel, .inl (T.cg _ (by decide +kernel))⟩ rfl rfl (fun n hn => (T.exm n hn _ (by decide +kernel)).1) (fun n hn a dx oe pn t hz hf => (he_tup (hes_cons (he_k pe_int fun _ => .int _) (hes_cons (he_thing (T.err n hn).x hz hf (pv 2)) hes_nil))))
  (HC.cons (x := "OtherRoot") (C := He.ga K "OtherRoot") (i := 2) (mt := fun n => isErr n "OtherRoot") (hv := fun n t => (.tup [(.int 1), t])) ⟨by rfl, by decide +kernel, .inl (T.cg _ (by decide +kernel))⟩ rfl rfl (fun n hn => (T.exm n hn _ (by decide +kernel)).1) (fun n hn a dx oe pn t hz hf => (he_tup (hes_cons (he_k pe_int fun _ => .int _) (hes_cons (he_thing (T.err n hn).x hz hf (pv 2)) hes_nil))))
  (HC.cons (x := "BadGrowth") (C := He.ga K "BadGrowth") (i := 2) (mt := fun n => isErr n "BadGrowth") (hv := fun n t => (.tup [(.int 9), t])) ⟨by rfl, by decide +kernel, .inl (T.cg _ (by decide +kernel))⟩ rfl rfl (fun n hn => (T.exm n hn _ (by decide +kernel)).1) (fun n hn a dx oe pn t hz hf => (he_tup (hes_cons (he_k pe_int fun _ => .int _) (hes_cons (he_thing (T.err n hn).x hz hf (pv 2)) hes_nil))))
  (HC.cons (x := "BadCount") (C := He.ga K "BadCount") (i := 2) (mt := fun n => isErr n "BadCount") (hv := fun n t => (.tup [(.int 5), t])) ⟨by rfl, by decide +kernel, .inl (T.cg _ (by decide +kernel))⟩ rfl rfl (fun n hn => (T.exm n hn _ (by decide +kernel)).1) (fun n hn a dx oe pn t hz hf => (he_tup (hes_cons (he_k pe_int fun _ => .int _) (hes_cons (he_thing (T.err n hn).x hz hf (pv 2)) hes_nil))))
  (HC.cons (x := "BadFactor") (C := He.ga K "BadFactor") (i := 2) (mt := fun n => isErr n "BadFactor") (hv := fun n t => (.tup [(.int 13), t])) ⟨by rfl, by decide +kernel, .inl (T.cg _ (by decide +kernel))⟩ rfl rfl (fun n hn => (T.exm n hn _ (by decide +kernel)).1) (fun n hn a dx oe pn t hz hf => (he_tup (hes_cons (he_k pe_int fun _ => .int _) (hes_cons (he_thing (T.err n hn).x hz hf (pv 2)) hes_nil))))
  (HC.cons (x := "BadPolynomial") (C := He.ga K "BadPolynomial") (i := 2) (mt := fun n => isErr n "BadPolynomial") (hv := fun n t => (.tup [(.int 2), t])) ⟨by rfl, by decide +kernel, .inl (T.cg _ (by decide +kernel))⟩ rfl rfl (fun n hn => (T.exm n hn _ (by decide +kernel)).1) (fun n hn a dx oe pn t hz hf => (he_tup (hes_cons (he_k pe_int fun _ => .int _) (hes_cons (he_thing (T.err n hn).x hz hf (pv 2)) hes_nil))))
  (HC.cons (x := "BadShift") (C := He.ga K "BadShift") (i := 2) (mt := fun n => isErr n "BadShift") (hv := fun n t => (.tup [(.int 12), t])) ⟨by rfl, by decide +kernel, .inl (T.cg _ (by decide +kernel))⟩ rfl rfl (fun n hn => (T.exm n hn _ (by decide +kernel)).1) (fun n hn a dx oe pn t hz hf => (he_tup (hes_cons (he_k pe_int fun _ => .int _) (hes_cons (he_thing (T.err n hn).x hz hf (pv 2)) hes_nil))))
  (HC.cons (x := "BadPlace") (C := He.ga K "BadPlace") (i := 2) (mt := fun n => isErr n "BadPlace") (hv := fun n t => (.tup [(.int 4), t])) ⟨by rfl, by decide +kernel, .inl (T.cg _ (by decide +kernel))⟩ rfl rfl (fun n hn => (T.exm n hn _ (by decide +kernel)).1) (fun n hn a dx oe pn t hz hf => (he_tup (hes_cons (he_k pe_int fun _ => .int _) (hes_cons (he_thing (T.err n hn).x hz hf (pv 2)) hes_nil))))
  (HC.cons (x := "BadClass") (C := He.ga K "BadClass") (i := 2) (mt := fun n => isErr n "BadClass") (hv := fun n t => (.tup [(.int 8), t])) ⟨by rfl, by decide +kernel, .inl (T.cg _ (by decide +kernel))⟩ rfl rfl (fun n hn => (T.exm n hn _ (by decide +kernel)).1) (fun n hn a dx oe pn t hz hf => (he_tup (hes_cons (he_k pe_int fun _ => .int _) (hes_cons (he_thing (T.err n hn).x hz hf (pv 2)) hes_nil))))
  (HC.cons (x := "BadFormula") (C := He.ga K "BadFormula") (i := 2) (mt := fun n => isErr n "BadFormula") (hv := fun n t => (.tup [(.int 6), t])) ⟨by rfl, by decide +kernel, .inl (T.cg _ (by decide +kernel))⟩ rfl rfl (fun n hn => (T.exm n hn _ (by decide +kernel)).1) (fun n hn a dx oe pn t hz hf => (he_tup (hes_cons (he_k pe_int fun _ => .int _) (hes_cons (he_thing (T.err n hn).x hz hf (pv 2)) hes_nil))))
  (HC.cons (x := "BadLine") (C := He.ga K "BadLine") (i := 2) (mt := fun n => isErr n "BadLine") (hv := fun n t => (.tup [(.int 10), t])) ⟨by rfl, by decide +kernel, .inl (T.cg _ (by decide +kernel))⟩ rfl rfl (fun n hn => (T.exm n hn _ (by decide +kernel)).1) (fun n hn a dx oe pn t hz hf => (he_tup (hes_cons (he_k pe_int fun _ => .int _) (hes_cons (he_thing (T.err n hn).x hz hf (pv 2)) hes_nil))))
  HC.nil))))))))))))))))
  (dss_one (ds_ret (de_tup (da_cons de_int (da_cons de_non da_nil)))))), fun ds q x h => ((fn__law_caught_eq ds q x).mp h).2⟩
theorem ok__law_caught_as_base (F : FnP K "_law_caught_as_base" (top 30) [] f fd) (T : Txt K mg) (C__law_kindsE : Cal__law_kindsE P w K mg base) (C__law_raise : Cal__law_raise P w K mg base) : FnG P w K mg base CX0 4 f fd p__law_caught_as_base (spN K false fn__law_caught_as_base) :=
  okN F sc__law_caught_as_base (fun ds q x h => ((fn__law_caught_as_base_eq ds q x).mp h).1) fun cdv A outer s H E hr hG => ⟨[], g__law_caught_as_base, (dss_cons (ds_try rfl rfl sc__law_caught_as_base.nd (fun E pn xe tk hp => (dss_one (ds_expr (calX_N C__law_raise tk hr hG (by rfl) 0 (da_cons (de_of (pv 0)) (da_cons (de_of (pv 1)) da_nil))))))
  (HC.cons (x := "StepError") (C := He.ga K "StepError") (i := 2) (mt := fun n => isErr n "StepError") (hv := fun n t => (hv__law_kindsE n)) ⟨by rfl, by decide +kernel, .inl (T.cg _ (by decide +kernel))⟩ rfl rfl (fun n hn => (T.exm n hn _ (by decide +kernel)).1) (fun n hn a dx oe pn t hz hf => (he_callE C__law_kindsE hn hr hz hf (by rfl) (pv 2)))
  HC.nil))
  (dss_one (ds_ret (DF.toE (df_lst da_nil))))), fun ds q x h => ((fn__law_caught_as_base_eq ds q x).mp h).2⟩
theorem ok_law (F : FnP K "law" (top 31) [] f fd) (T : Txt K mg) (C__law_deck : Cal__law_deck P w K mg base) (C__law_any : Cal__law_any P w K mg base) (C__law_by_name : Cal__law_by_name P w K mg base) (C__law_by_position : Cal__law_by_position P w K mg base) (C__law_carried : Cal__law_carried P w K mg base) (C__law_caught : Cal__law_caught P w K mg base) (C__law_caught_as_base : Cal__law_caught_as_base P w K mg base) (C__law_is_own : Cal__law_is_own P w K mg base) (C__law_is_same : Cal__law_is_same P w K mg base) (G : ∀ a d, g_law d (lawStart 13 a d) lawEnds) : FnG P w K mg base CX0 10 f fd p_law (spLaw K) := by
  refine okLaw2 (nm := "left") (z := 13735000) F sc_law rfl (by decide) ⟨by decide, by decide⟩ (fun cdv A outer s H E hr hG => ?_) fun cdv A outer s H E a d l hr hG => ⟨[], g_law d, ?_, G a d⟩
  · obtain ⟨fD, fdD, h1, h2, h3, h4, _⟩ := C__law_deck.ex
    obtain ⟨dvs, dss, b1, b2, b3⟩ := h4 [] (List.mem_cons_self ..)
    have e1 := b3 fun _ => none
    cases dvs with
    | cons v vs => cases e1
    | nil =>
      cases b2
      exact ps_set (i := 1) sc_law.nd rfl (by first | exact .inl rfl | exact .inr rfl) (pe_callG h1 (hr.mono (by decide)) hG (by rfl) h2 h3 b1 .nil passN (pa_cons (pv 0) (pa_cons pe_int pa_nil))) rfl (by first | exact .inl rfl | exact .inr rfl)
  · exact (dss_cons (ds_asg (de_tup (da_cons (cal_G C__law_any hr hG (by rfl) (da_cons (de_of (pv 1)) (da_cons de_int da_nil))) (da_cons (cal_G C__law_any hr hG (by rfl) (da_cons (de_of (pv 1)) (da_cons de_int da_nil))) da_nil))) (dg_seq rfl (dgs_cons (dg_name (i := 2) sc_law.nd rfl (by first | exact .inl rfl | exact .inr rfl)) (dgs_cons (dg_name (i := 3) sc_law.nd rfl (by first | exact .inl rfl | exact .inr rfl)) dgs_nil))))
  (dss_cons (ds_par2 (i := 4) (j := 5) rfl sc_law.nd rfl rfl rfl rfl (da_cons (cal_N C__law_by_position hr hG (by rfl) 0 (da_cons (de_of (pv 2)) da_nil)) (da_cons (cal_N C__law_by_name hr hG (by rfl) 0 (da_cons (de_of (pv 3)) da_nil)) da_nil)))
  (dss_cons (ds_if (dt_cmp (cd_ne hr.units) (DE.toB (DF.toE (df_lc (own := [("it", 6)]) rfl sc_law.nd (di_seq (cal_N C__law_carried hr hG (by rfl) 0 (da_cons (de_of (pv 4)) da_nil))) (blkOk_by (by rfl)) (fun _ _ _ _ _ => (dgw_name (i := 6) sc_law.nd rfl (by first | exact .inl rfl | exact .inr rfl) (by first | exact .inl rfl | exact .inr rfl))) (fun _ _ _ _ _ => (dts_one (dt_not (dt_val (cal_N C__law_is_same hr hG (by rfl) 0 (da_cons (de_of (pv 6)) (da_cons (de_of (pv 2)) da_nil))))))) (fun _ _ _ _ _ => (de_of (pv 6)))))) (DE.toB (DF.toE (df_lst da_nil))))
  (dss_one (ds_ret de_bl))
  dss_nil)
  (dss_cons (ds_if (dt_cmp (cd_ne hr.units) (DE.toB (DF.toE (df_lc (own := [("it", 6)]) rfl sc_law.nd (di_seq (cal_N C__law_carried hr hG (by rfl) 0 (da_cons (de_of (pv 5)) da_nil))) (blkOk_by (by rfl)) (fun _ _ _ _ _ => (dgw_name (i := 6) sc_law.nd rfl (by first | exact .inl rfl | exact .inr rfl) (by first | exact .inl rfl | exact .inr rfl))) (fun _ _ _ _ _ => (dts_one (dt_not (dt_val (cal_N C__law_is_same hr hG (by rfl) 0 (da_cons (de_of (pv 6)) (da_cons (de_of (pv 3)) da_nil))))))) (fun _ _ _ _ _ => (de_of (pv 6)))))) (DE.toB (DF.toE (df_lst da_nil))))
  (dss_one (ds_ret de_bl))
  dss_nil)
  (dss_cons (ds_for PassesOwn.never rfl (di_seq (de_tup (da_cons (de_of (pv 4)) (da_cons (de_of (pv 5)) da_nil)))) (dg_name (i := 7) sc_law.nd rfl (by first | exact .inl rfl | exact .inr rfl))
  (dss_one (ds_for PassesOwn.never rfl (di_enumL (by rfl) T.n_enumerate (de_of (pv 7))) (dg_tup rfl (dgs_cons (dg_name (i := 8) sc_law.nd rfl (by first | exact .inl rfl | exact .inr rfl)) (dgs_cons (dg_name (i := 9) sc_law.nd rfl (by first | exact .inl rfl | exact .inr rfl)) dgs_nil)))
  (dss_one (ds_if (dt_not (dt_val (cal_N C__law_is_own hr hG (by rfl) 0 (da_cons (de_of (pv 8)) (da_cons (de_of (pv 9)) da_nil)))))
  (dss_one (ds_ret de_bl))
  dss_nil)))))
  (dss_cons (ds_for PassesOwn.never rfl (di_range1 (by rfl) T.n_range de_int) (dg_name (i := 10) sc_law.nd rfl (by first | exact .inl rfl | exact .inr rfl))
  (dss_cons (ds_set (i := 11) sc_law.nd rfl (by first | exact .inl rfl | exact .inr rfl) (cal_N C__law_caught hr hG (by rfl) 0 (da_cons (de_of (pv 10)) (da_cons (de_of (pv 2)) da_nil))))
  (dss_cons (ds_if (dw_pt (dw_or (dt_cmp (cd_ne hr.units) (DE.toB (de_ix (db_of (pv 11)) (de_int).toB)) (db_of (pv 10))) (dw_or1 (dt_not (dt_val (cal_N C__law_is_same hr hG (by rfl) 0 (da_cons (de_ix (db_of (pv 11)) (de_int).toB) (da_cons (de_of (pv 2)) da_nil))))))))
  (dss_one (ds_ret de_bl))
  dss_nil)
  (dss_one (ds_if (dt_cmp (cd_ne hr.units) (DE.toB (cal_N C__law_caught_as_base hr hG (by rfl) 0 (da_cons (de_of (pv 10)) (da_cons (de_of (pv 3)) da_nil)))) (DE.toB (DF.toE (df_lc (own := [("place", 12)]) rfl sc_law.nd (di_range1 (by rfl) T.n_range de_int) (blkOk_by (by rfl)) (fun _ _ _ _ _ => (dgw_name (i := 12) sc_law.nd rfl (by first | exact .inl rfl | exact .inr rfl) (by first | exact .inl rfl | exact .inr rfl))) (fun _ _ _ _ _ => dts_nil) (fun _ _ _ _ _ => (de_cmp (cd_eq hr.units) (db_of (pv 12)) (db_of (pv 10))))))))
  (dss_one (ds_ret de_bl))
  dss_nil)))))
  (dss_one (ds_ret de_bl))))))))
end
end K00

set_option exponentiation.threshold 10000
namespace K00
open PySem PySem.Spec PyProof.Rows L2 DL DN
section
variable (q : D → Prop) (x : XD)
theorem fSeq_split {f f' : FS} {ρ : Ro} {d : DEnds} (h : ∀ R : FS, R = f' → f ρ { d with nx := fun ρ' => R ρ' d }) : fSeq f f' ρ d := h f' rfl
theorem LNle {n : Nat} (h : n ≤ 10000) : n ≤ LN := Nat.le_trans h (by decide)
theorem draw_go (n : Int) (h0 : 1 ≤ n) (h1 : n < 1073741824) (h : ∀ r : Int, 0 ≤ r → r < n → q (.int r)) : fnDraw [.int n] q x := ⟨n, rfl, h0, h1, h⟩
theorem pick_go (ds : List D) (h0 : ds ≠ []) (h1 : ds.length < 1073741824) (h : ∀ a ∈ ds, q a) : fn__law_pick [.lst ds] q x := by
  rw [fn__law_pick_eq]; unfold g__law_pick
  refine ⟨rfl, fun a => ⟨rfl, draw_go _ _ _ ?_ (by omega) fun r r0 r1 => ?_⟩⟩
  · have := List.length_pos_iff.mpr h0; omega
  · obtain ⟨k, rfl⟩ := Int.eq_ofNat_of_zero_le r0
    have hk : k < ds.length := by omega
    rw [ev_ix_lst _ _ (DL.atI_nat (List.getElem?_eq_getElem hk))]
    exact h _ (List.getElem_mem hk)
theorem rangeD_nat (k : Nat) : rangeD 0 k = (List.range k).map fun i => D.int (i : Nat) := by
  unfold rangeD
  congr 1
  funext i
  rw [Int.zero_add]
/-- what the law draws, in how many layers -/
inductive Vz : Nat → D → Prop
  | int {n : Nat} {i : Int} (h : i.natAbs.log2 < 1920) : Vz n (.int i)
  | str {n : Nat} {s : Str} (h : (reprText s).length ≤ sizeLine) : Vz n (.str s)
  | bl {n : Nat} (b : Bool) : Vz n (.bl b)
  | non {n : Nat} : Vz n .non
  | lst {n : Nat} {l : List D} (h : ∀ a ∈ l, Vz n a) (hl : l.length ≤ 3) : Vz (n + 1) (.lst l)
  | tup {n : Nat} {l : List D} (h : ∀ a ∈ l, Vz n a) (hl : l.length ≤ 3) : Vz (n + 1) (.tup l)
  | diz {n : Nat} {l : List D} {m : Int} (h : ∀ a ∈ l, Vz n a) (hl : l.length ≤ 3) (hm : m.natAbs.log2 < 1920) : Vz (n + 2) (.diz [.inr "key", .inl 1] [.lst l, .int m])
theorem Vz.up {n : Nat} {a : D} (h : Vz n a) : Vz (n + 1) a := by
  induction h with
  | int h => exact .int h
  | str h => exact .str h
  | bl b => exact .bl b
  | non => exact .non
  | lst h hl ih => exact .lst ih hl
  | tup h hl ih => exact .tup ih hl
  | diz h hl hm ih => exact .diz ih hl hm
theorem Vz.mono {n m : Nat} {a : D} (h : Vz n a) (hm : n ≤ m) : Vz m a := by
  obtain ⟨k, rfl⟩ := Nat.le.dest hm
  induction k with
  | zero => exact h
  | succ k ih => exact (ih (Nat.le_add_right _ _)).up
theorem log_ok {i : Int} (h : i.natAbs ≤ 10 ^ 40) : i.natAbs.log2 < 1920 := by
  by_cases z : i.natAbs = 0
  · rw [z]; decide
  · exact (Nat.log2_lt z).mpr (Nat.lt_of_le_of_lt h (by decide))
theorem any_step (rc : Fn) (j : Int) (n : Nat) (hrc : 0 < j → ∀ (q : D → Prop) (x : XD), (∀ a, Vz n a → q a) → rc [.int (j - 1)] q x) (h : ∀ a, Vz (n + 2) a → q a) (d : Addr) : g__law_any rc d (startD 5 [.ref d, .int j]) (entry false q x) := by
  unfold g__law_any
  obtain ⟨E, hE⟩ : ∃ E, E = entry false q x := ⟨_, rfl⟩
  have e1 : E.rt = q := by rw [hE]
  have e2 : E.x = x := by rw [hE]
  rw [← hE]
  clear hE
  refine fSeq_split fun R hR => ?_
  simp only [fSeq, fIfS, fRet, fRetN, fDrop, fAsg, fName, fGseq, fGtup, fGcons, fGnil, fVar, fVarL, fDPut, fDGet2, sDGet, sKeys, fK, f1, f2, fNil, fCons, fTup, fLst, fCall, fCall0, fCallG, fCallK, fCallK0, fRaise, fTry, tryX, fTest, gNot, gAnd, gOr, hAnd, hOr, hNot, fIf, fPar2, fPar3, fSkip, fNever, fBrk, fCnt, fIt, fItT, fItL, fFor, forL, startD, entry, pick, D.isNon,
  DL.lt', DL.le', DL.gt', DL.ge', fSl, fPart, fNo, List.map_cons, List.map_nil, List.length_cons, List.length_nil, List.append_nil, List.nil_append, List.cons_append, List.getElem?_cons_zero, List.getElem?_cons_succ, List.set_cons_zero, List.set_cons_succ, List.replicate_succ, List.replicate_zero, List.filterMap_cons, List.filterMap_nil, Nat.zero_add, Nat.reduceAdd, if_true, if_false, Bool.false_eq_true, Nat.sub_self, Nat.reduceSub, List.replicate_zero, List.map_cons, List.map_nil, List.cons_append, List.nil_append, List.append_nil, List.getElem?_cons_zero, List.getElem?_cons_succ, List.set_cons_zero, List.set_cons_succ, List.length_cons, List.length_nil, Nat.zero_add, Nat.reduceAdd, Nat.reduceLT, Nat.reduceLeDiff, true_and, and_true, LN, eq_self, e1, e2]
  refine draw_go _ _ _ (by decide) (by decide) fun w w0 w1 => ?_
  rw [hR]; clear hR R
  refine fSeq_split fun R hR => ?_
  simp only [fSeq, fIfS, fRet, fRetN, fDrop, fAsg, fName, fGseq, fGtup, fGcons, fGnil, fVar, fVarL, fDPut, fDGet2, sDGet, sKeys, fK, f1, f2, fNil, fCons, fTup, fLst, fCall, fCall0, fCallG, fCallK, fCallK0, fRaise, fTry, tryX, fTest, gNot, gAnd, gOr, hAnd, hOr, hNot, fIf, fPar2, fPar3, fSkip, fNever, fBrk, fCnt, fIt, fItT, fItL, fFor, forL, startD, entry, pick, D.isNon,
  DL.lt', DL.le', DL.gt', DL.ge', fSl, fPart, fNo, List.map_cons, List.map_nil, List.length_cons, List.length_nil, List.append_nil, List.nil_append, List.cons_append, List.getElem?_cons_zero, List.getElem?_cons_succ, List.set_cons_zero, List.set_cons_succ, List.replicate_succ, List.replicate_zero, List.filterMap_cons, List.filterMap_nil, Nat.zero_add, Nat.reduceAdd, if_true, if_false, Bool.false_eq_true, Nat.sub_self, Nat.reduceSub, List.replicate_zero, List.map_cons, List.map_nil, List.cons_append, List.nil_append, List.append_nil, List.getElem?_cons_zero, List.getElem?_cons_succ, List.set_cons_zero, List.set_cons_succ, List.length_cons, List.length_nil, Nat.zero_add, Nat.reduceAdd, Nat.reduceLT, Nat.reduceLeDiff, true_and, and_true, LN, eq_self, e1, e2, ev_cmp, DL.lt', decide_eq_true_eq]
  have c38 : CPow 10 38 := ⟨by decide, by decide, by decide⟩
  have c20 : CPow 10 20 := ⟨by decide, by decide, by decide⟩
  split
  · simp only [ev_neg, ev_pow, ev_mul, c38, c20, true_and]
    refine ⟨mulOk_l (by decide) (by decide), pick_go _ _ _ (by simp) (by decide) fun b hb => ?_⟩
    have : ∃ i : Int, b = .int i ∧ i.natAbs ≤ 10 ^ 40 := by
      simp at hb
      rcases hb with e | e | e | e | e | e | e | e <;> exact ⟨_, e, by decide⟩
    obtain ⟨i, rfl, hi⟩ := this
    exact h _ (.int (log_ok hi))
  rw [hR]; clear hR R
  refine fSeq_split fun R hR => ?_
  simp only [fSeq, fIfS, fRet, fRetN, fDrop, fAsg, fName, fGseq, fGtup, fGcons, fGnil, fVar, fVarL, fDPut, fDGet2, sDGet, sKeys, fK, f1, f2, fNil, fCons, fTup, fLst, fCall, fCall0, fCallG, fCallK, fCallK0, fRaise, fTry, tryX, fTest, gNot, gAnd, gOr, hAnd, hOr, hNot, fIf, fPar2, fPar3, fSkip, fNever, fBrk, fCnt, fIt, fItT, fItL, fFor, forL, startD, entry, pick, D.isNon,
  DL.lt', DL.le', DL.gt', DL.ge', fSl, fPart, fNo, List.map_cons, List.map_nil, List.length_cons, List.length_nil, List.append_nil, List.nil_append, List.cons_append, List.getElem?_cons_zero, List.getElem?_cons_succ, List.set_cons_zero, List.set_cons_succ, List.replicate_succ, List.replicate_zero, List.filterMap_cons, List.filterMap_nil, Nat.zero_add, Nat.reduceAdd, if_true, if_false, Bool.false_eq_true, Nat.sub_self, Nat.reduceSub, List.replicate_zero, List.map_cons, List.map_nil, List.cons_append, List.nil_append, List.append_nil, List.getElem?_cons_zero, List.getElem?_cons_succ, List.set_cons_zero, List.set_cons_succ, List.length_cons, List.length_nil, Nat.zero_add, Nat.reduceAdd, Nat.reduceLT, Nat.reduceLeDiff, true_and, and_true, LN, eq_self, e1, e2, ev_cmp, DL.lt', decide_eq_true_eq]
  split
  · refine pick_go _ _ _ (by simp) (by decide) fun b hb => ?_
    have : ∃ s : Str, b = .str s ∧ (reprText s).length ≤ sizeLine := by
      simp at hb
      rcases hb with e | e | e | e | e | e <;> exact ⟨_, e, by decide +kernel⟩
    obtain ⟨s, rfl, h1⟩ := this
    exact h _ (.str h1)
  rw [hR]; clear hR R
  refine fSeq_split fun R hR => ?_
  simp only [fSeq, fIfS, fRet, fRetN, fDrop, fAsg, fName, fGseq, fGtup, fGcons, fGnil, fVar, fVarL, fDPut, fDGet2, sDGet, sKeys, fK, f1, f2, fNil, fCons, fTup, fLst, fCall, fCall0, fCallG, fCallK, fCallK0, fRaise, fTry, tryX, fTest, gNot, gAnd, gOr, hAnd, hOr, hNot, fIf, fPar2, fPar3, fSkip, fNever, fBrk, fCnt, fIt, fItT, fItL, fFor, forL, startD, entry, pick, D.isNon,
  DL.lt', DL.le', DL.gt', DL.ge', fSl, fPart, fNo, List.map_cons, List.map_nil, List.length_cons, List.length_nil, List.append_nil, List.nil_append, List.cons_append, List.getElem?_cons_zero, List.getElem?_cons_succ, List.set_cons_zero, List.set_cons_succ, List.replicate_succ, List.replicate_zero, List.filterMap_cons, List.filterMap_nil, Nat.zero_add, Nat.reduceAdd, if_true, if_false, Bool.false_eq_true, Nat.sub_self, Nat.reduceSub, List.replicate_zero, List.map_cons, List.map_nil, List.cons_append, List.nil_append, List.append_nil, List.getElem?_cons_zero, List.getElem?_cons_succ, List.set_cons_zero, List.set_cons_succ, List.length_cons, List.length_nil, Nat.zero_add, Nat.reduceAdd, Nat.reduceLT, Nat.reduceLeDiff, true_and, and_true, LN, eq_self, e1, e2, ev_eq_int, Bool.false_xor, decide_eq_true_eq]
  split
  · refine pick_go _ _ _ (by simp) (by decide) fun b hb => ?_
    simp at hb
    rcases hb with e | e | e
    · exact h _ (e ▸ .bl true)
    · exact h _ (e ▸ .bl false)
    · exact h _ (e ▸ .non)
  rw [hR]; clear hR R
  refine fSeq_split fun R hR => ?_
  simp only [fLc, fRg1, fSeq, fIfS, fRet, fRetN, fDrop, fAsg, fName, fGseq, fGtup, fGcons, fGnil, fVar, fVarL, fDPut, fDGet2, sDGet, sKeys, fK, f1, f2, fNil, fCons, fTup, fLst, fCall, fCall0, fCallG, fCallK, fCallK0, fRaise, fTry, tryX, fTest, gNot, gAnd, gOr, hAnd, hOr, hNot, fIf, fPar2, fPar3, fSkip, fNever, fBrk, fCnt, fIt, fItT, fItL, fFor, forL, startD, entry, pick, D.isNon,
  DL.lt', DL.le', DL.gt', DL.ge', fSl, fPart, fNo, List.map_cons, List.map_nil, List.length_cons, List.length_nil, List.append_nil, List.nil_append, List.cons_append, List.getElem?_cons_zero, List.getElem?_cons_succ, List.set_cons_zero, List.set_cons_succ, List.replicate_succ, List.replicate_zero, List.filterMap_cons, List.filterMap_nil, Nat.zero_add, Nat.reduceAdd, if_true, if_false, Bool.false_eq_true, Nat.sub_self, Nat.reduceSub, List.replicate_zero, List.map_cons, List.map_nil, List.cons_append, List.nil_append, List.append_nil, List.getElem?_cons_zero, List.getElem?_cons_succ, List.set_cons_zero, List.set_cons_succ, List.length_cons, List.length_nil, Nat.zero_add, Nat.reduceAdd, Nat.reduceLT, Nat.reduceLeDiff, true_and, and_true, LN, eq_self, e1, e2, ev_cmp, DL.gt', decide_eq_true_eq]
  have K : ∀ l : List D, l.length ≤ 3 → (∀ a ∈ l, Vz n a) → R [some (.ref d), some (.int j), some (.int w), some (.lst l), none] E := fun l hl hv => by
    rw [hR]; clear hR R
    refine fSeq_split fun R hR => ?_
    simp only [fSeq, fIfS, fRet, fRetN, fDrop, fAsg, fName, fGseq, fGtup, fGcons, fGnil, fVar, fVarL, fDPut, fDGet2, sDGet, sKeys, fK, f1, f2, fNil, fCons, fTup, fLst, fCall, fCall0, fCallG, fCallK, fCallK0, fRaise, fTry, tryX, fTest, gNot, gAnd, gOr, hAnd, hOr, hNot, fIf, fPar2, fPar3, fSkip, fNever, fBrk, fCnt, fIt, fItT, fItL, fFor, forL, startD, entry, pick, D.isNon,
  DL.lt', DL.le', DL.gt', DL.ge', fSl, fPart, fNo, List.map_cons, List.map_nil, List.length_cons, List.length_nil, List.append_nil, List.nil_append, List.cons_append, List.getElem?_cons_zero, List.getElem?_cons_succ, List.set_cons_zero, List.set_cons_succ, List.replicate_succ, List.replicate_zero, List.filterMap_cons, List.filterMap_nil, Nat.zero_add, Nat.reduceAdd, if_true, if_false, Bool.false_eq_true, Nat.sub_self, Nat.reduceSub, List.replicate_zero, List.map_cons, List.map_nil, List.cons_append, List.nil_append, List.append_nil, List.getElem?_cons_zero, List.getElem?_cons_succ, List.set_cons_zero, List.set_cons_succ, List.length_cons, List.length_nil, Nat.zero_add, Nat.reduceAdd, Nat.reduceLT, Nat.reduceLeDiff, true_and, and_true, LN, eq_self, e1, e2, ev_eq_int, Bool.false_xor, decide_eq_true_eq]
    split
    · exact h _ (Vz.lst hv hl).up
    rw [hR]; clear hR R
    simp only [fDiz, fSeq, fIfS, fRet, fRetN, fDrop, fAsg, fName, fGseq, fGtup, fGcons, fGnil, fVar, fVarL, fDPut, fDGet2, sDGet, sKeys, fK, f1, f2, fNil, fCons, fTup, fLst, fCall, fCall0, fCallG, fCallK, fCallK0, fRaise, fTry, tryX, fTest, gNot, gAnd, gOr, hAnd, hOr, hNot, fIf, fPar2, fPar3, fSkip, fNever, fBrk, fCnt, fIt, fItT, fItL, fFor, forL, startD, entry, pick, D.isNon,
  DL.lt', DL.le', DL.gt', DL.ge', fSl, fPart, fNo, List.map_cons, List.map_nil, List.length_cons, List.length_nil, List.append_nil, List.nil_append, List.cons_append, List.getElem?_cons_zero, List.getElem?_cons_succ, List.set_cons_zero, List.set_cons_succ, List.replicate_succ, List.replicate_zero, List.filterMap_cons, List.filterMap_nil, Nat.zero_add, Nat.reduceAdd, if_true, if_false, Bool.false_eq_true, Nat.sub_self, Nat.reduceSub, List.replicate_zero, List.map_cons, List.map_nil, List.cons_append, List.nil_append, List.append_nil, List.getElem?_cons_zero, List.getElem?_cons_succ, List.set_cons_zero, List.set_cons_succ, List.length_cons, List.length_nil, Nat.zero_add, Nat.reduceAdd, Nat.reduceLT, Nat.reduceLeDiff, true_and, and_true, LN, eq_self, e1, e2, ev_eq_int, Bool.false_xor, decide_eq_true_eq]
    split
    · rw [ev_len_lst]
      exact h _ (.diz hv hl (log_ok (by rw [Int.natAbs_natCast]; exact Nat.le_trans hl (by decide))))
    · rw [ev_tuple_lst]
      exact h _ (Vz.tup hv hl).up
  split
  · refine draw_go _ _ _ (by decide) (by decide) fun y y0 y1 => ?_
    refine ⟨by omega, by omega, ?_⟩
    rw [rangeD_nat]
    refine lc_all (β := D) (fun i : Nat => D.int (i : Nat)) id (fun a => Vz n a) _ [] (fun i _ q' hq => ?_) (LNle (by rw [List.length_nil, List.length_range]; omega)) (fun b hb => by cases hb) fun l l1 hl => ?_
    · refine ⟨show (4 : Nat) < 5 by decide, ?_⟩
      simp only [wipeD, fSeq, fIfS, fRet, fRetN, fDrop, fAsg, fName, fGseq, fGtup, fGcons, fGnil, fVar, fVarL, fDPut, fDGet2, sDGet, sKeys, fK, f1, f2, fNil, fCons, fTup, fLst, fCall, fCall0, fCallG, fCallK, fCallK0, fRaise, fTry, tryX, fTest, gNot, gAnd, gOr, hAnd, hOr, hNot, fIf, fPar2, fPar3, fSkip, fNever, fBrk, fCnt, fIt, fItT, fItL, fFor, forL, startD, entry, pick, D.isNon,
  DL.lt', DL.le', DL.gt', DL.ge', fSl, fPart, fNo, List.map_cons, List.map_nil, List.length_cons, List.length_nil, List.append_nil, List.nil_append, List.cons_append, List.getElem?_cons_zero, List.getElem?_cons_succ, List.set_cons_zero, List.set_cons_succ, List.replicate_succ, List.replicate_zero, List.filterMap_cons, List.filterMap_nil, Nat.zero_add, Nat.reduceAdd, if_true, if_false, Bool.false_eq_true, Nat.sub_self, Nat.reduceSub, List.replicate_zero, List.map_cons, List.map_nil, List.cons_append, List.nil_append, List.append_nil, List.getElem?_cons_zero, List.getElem?_cons_succ, List.set_cons_zero, List.set_cons_succ, List.length_cons, List.length_nil, Nat.zero_add, Nat.reduceAdd, Nat.reduceLT, Nat.reduceLeDiff, true_and, and_true, LN, eq_self, ev_sub]
      exact hrc (by assumption) _ _ hq
    · rw [List.map_id]
      exact K l (by rw [l1, List.length_nil, List.length_range]; omega) hl
  · exact K [] (Nat.zero_le _) (fun a ha => by cases ha)
theorem any_1 (h : ∀ a, Vz 2 a → q a) : fn__law_any_1 [.int 0] q x := by
  rw [fn__law_any_1_eq]
  exact ⟨rfl, fun d => any_step q x _ 0 0 (fun z => absurd z (by decide)) h d⟩
theorem any_20 (h : ∀ a, Vz 2 a → q a) : fn__law_any_2 [.int 0] q x := by
  rw [fn__law_any_2_eq]
  exact ⟨rfl, fun d => any_step q x _ 0 0 (fun z => absurd z (by decide)) h d⟩
theorem any_2 (h : ∀ a, Vz 4 a → q a) : fn__law_any_2 [.int 1] q x := by
  rw [fn__law_any_2_eq]
  exact ⟨rfl, fun d => any_step q x _ 1 2 (fun _ q x h => any_1 q x h) h d⟩
theorem any_31 (h : ∀ a, Vz 4 a → q a) : fn__law_any_3 [.int 1] q x := by
  rw [fn__law_any_3_eq]
  exact ⟨rfl, fun d => any_step q x _ 1 2 (fun _ q x h => any_20 q x h) h d⟩
theorem any_3 (h : ∀ a, Vz 6 a → q a) : fn__law_any_3 [.int 2] q x := by
  rw [fn__law_any_3_eq]
  exact ⟨rfl, fun d => any_step q x _ 2 4 (fun _ q x h => any_2 q x h) h d⟩
theorem any_far (h : ∀ a, Vz 6 a → q a) : fn__law_any [.int 2] q x := by
  show fn__law_any_4 _ _ _
  rw [fn__law_any_4_eq]
  exact ⟨rfl, fun d => any_step q x _ 2 4 (fun _ q x h => any_31 q x h) h d⟩
theorem any_near (h : ∀ a, Vz 8 a → q a) : fn__law_any [.int 3] q x := by
  show fn__law_any_4 _ _ _
  rw [fn__law_any_4_eq]
  exact ⟨rfl, fun d => any_step q x _ 3 6 (fun _ q x h => any_3 q x h) h d⟩
/-! ### is_same of a value and itself -/
theorem lc_none {t : FG} {tt : FT} {fe : FE} {vs : List Nat} {ρ : Ro} {q : D → Prop} {x : XD} (acc : List D) : ∀ (ds : List D), (∀ a ∈ ds, ∀ Q : Ro → Bool → Prop, (∀ ρ1, Q ρ1 false) → t a (wipeD ρ vs) fun ρ1 => tt ρ1 (Q ρ1) x) → q (.lst acc) → lcL t tt fe vs ρ q x ds acc
  | [], _, h => h
  | a :: ds, hs, h => hs a (List.mem_cons_self ..) (fun ρ1 b => if b = true then fe ρ1 (fun d => acc.length < LN ∧ lcL t tt fe vs ρ q x ds (acc ++ [d])) x else lcL t tt fe vs ρ q x ds acc) (fun ρ1 => by
    rw [if_neg (by decide)]
    exact lc_none acc ds (fun b hb => hs b (List.mem_cons_of_mem _ hb)) h)
theorem enumD_mem {l : List D} {a : D} (h : a ∈ enumD l) : ∃ (i : Nat) (d : D), l[i]? = some d ∧ a = .tup [.int (i : Nat), d] := by
  unfold enumD at h
  obtain ⟨i, hi, e⟩ := List.mem_mapIdx.mp h
  exact ⟨i, l[i], List.getElem?_eq_getElem hi, e.symm⟩
theorem ev_eq_bl (n a b : Bool) (h : q (.bl (n ^^ decide (a = b)))) : sEq n (.bl a) (.bl b) q x := by
  refine ⟨rfl, rfl, Nat.zero_le _, Nat.zero_le _, ?_⟩
  have : eqD (.bl a) (.bl b) = decide (a = b) := by cases a <;> cases b <;> rfl
  rw [this]
  exact h
theorem ev_eq_nil (n : Bool) (h : q (.bl (n ^^ true))) : sEq n (.lst []) (.lst []) q x := ⟨rfl, rfl, by decide, by decide, h⟩
theorem isLT_non : sIsiT ["list", "tuple"] .non q x = q (.bl false) := congrArg (fun b => q (.bl b)) (show (["list", "tuple"].any fun T => isTy T "NoneType") = false by decide +kernel)
theorem isLTD_non : sIsiT ["list", "tuple", "dict"] .non q x = q (.bl false) := congrArg (fun b => q (.bl b)) (show (["list", "tuple", "dict"].any fun T => isTy T "NoneType") = false by decide +kernel)
theorem isZ_non : sIsi "dict" .non q x = q (.bl false) := congrArg (fun b => q (.bl b)) (show (isTy "dict" "NoneType") = false by decide +kernel)
theorem isL_non : sIsi "list" .non q x = q (.bl false) := congrArg (fun b => q (.bl b)) (show (isTy "list" "NoneType") = false by decide +kernel)
theorem isLT_bl (b : Bool) : sIsiT ["list", "tuple"] (.bl b) q x = q (.bl false) := congrArg (fun b => q (.bl b)) (show (["list", "tuple"].any fun T => isTy T "bool") = false by decide +kernel)
theorem isLTD_bl (b : Bool) : sIsiT ["list", "tuple", "dict"] (.bl b) q x = q (.bl false) := congrArg (fun b => q (.bl b)) (show (["list", "tuple", "dict"].any fun T => isTy T "bool") = false by decide +kernel)
theorem isZ_bl (b : Bool) : sIsi "dict" (.bl b) q x = q (.bl false) := congrArg (fun b => q (.bl b)) (show (isTy "dict" "bool") = false by decide +kernel)
theorem isL_bl (b : Bool) : sIsi "list" (.bl b) q x = q (.bl false) := congrArg (fun b => q (.bl b)) (show (isTy "list" "bool") = false by decide +kernel)
theorem isLT_int (i : Int) : sIsiT ["list", "tuple"] (.int i) q x = q (.bl false) := congrArg (fun b => q (.bl b)) (show (["list", "tuple"].any fun T => isTy T "int") = false by decide +kernel)
theorem isLTD_int (i : Int) : sIsiT ["list", "tuple", "dict"] (.int i) q x = q (.bl false) := congrArg (fun b => q (.bl b)) (show (["list", "tuple", "dict"].any fun T => isTy T "int") = false by decide +kernel)
theorem isZ_int (i : Int) : sIsi "dict" (.int i) q x = q (.bl false) := congrArg (fun b => q (.bl b)) (show (isTy "dict" "int") = false by decide +kernel)
theorem isL_int (i : Int) : sIsi "list" (.int i) q x = q (.bl false) := congrArg (fun b => q (.bl b)) (show (isTy "list" "int") = false by decide +kernel)
theorem isLT_str (s : Str) : sIsiT ["list", "tuple"] (.str s) q x = q (.bl false) := congrArg (fun b => q (.bl b)) (show (["list", "tuple"].any fun T => isTy T "str") = false by decide +kernel)
theorem isLTD_str (s : Str) : sIsiT ["list", "tuple", "dict"] (.str s) q x = q (.bl false) := congrArg (fun b => q (.bl b)) (show (["list", "tuple", "dict"].any fun T => isTy T "str") = false by decide +kernel)
theorem isZ_str (s : Str) : sIsi "dict" (.str s) q x = q (.bl false) := congrArg (fun b => q (.bl b)) (show (isTy "dict" "str") = false by decide +kernel)
theorem isL_str (s : Str) : sIsi "list" (.str s) q x = q (.bl false) := congrArg (fun b => q (.bl b)) (show (isTy "list" "str") = false by decide +kernel)
theorem isLT_tup (l : List D) : sIsiT ["list", "tuple"] (.tup l) q x = q (.bl true) := congrArg (fun b => q (.bl b)) (show (["list", "tuple"].any fun T => isTy T "tuple") = true by decide +kernel)
theorem isLTD_tup (l : List D) : sIsiT ["list", "tuple", "dict"] (.tup l) q x = q (.bl true) := congrArg (fun b => q (.bl b)) (show (["list", "tuple", "dict"].any fun T => isTy T "tuple") = true by decide +kernel)
theorem isZ_tup (l : List D) : sIsi "dict" (.tup l) q x = q (.bl false) := congrArg (fun b => q (.bl b)) (show (isTy "dict" "tuple") = false by decide +kernel)
theorem isL_tup (l : List D) : sIsi "list" (.tup l) q x = q (.bl false) := congrArg (fun b => q (.bl b)) (show (isTy "list" "tuple") = false by decide +kernel)
theorem isLT_lst (l : List D) : sIsiT ["list", "tuple"] (.lst l) q x = q (.bl true) := congrArg (fun b => q (.bl b)) (show (["list", "tuple"].any fun T => isTy T "list") = true by decide +kernel)
theorem isLTD_lst (l : List D) : sIsiT ["list", "tuple", "dict"] (.lst l) q x = q (.bl true) := congrArg (fun b => q (.bl b)) (show (["list", "tuple", "dict"].any fun T => isTy T "list") = true by decide +kernel)
theorem isZ_lst (l : List D) : sIsi "dict" (.lst l) q x = q (.bl false) := congrArg (fun b => q (.bl b)) (show (isTy "dict" "list") = false by decide +kernel)
theorem isL_lst (l : List D) : sIsi "list" (.lst l) q x = q (.bl true) := congrArg (fun b => q (.bl b)) (show (isTy "list" "list") = true by decide +kernel)
theorem isLT_diz (ks : List Key) (l : List D) : sIsiT ["list", "tuple"] (.diz ks l) q x = q (.bl false) := congrArg (fun b => q (.bl b)) (show (["list", "tuple"].any fun T => isTy T "dict") = false by decide +kernel)
theorem isLTD_diz (ks : List Key) (l : List D) : sIsiT ["list", "tuple", "dict"] (.diz ks l) q x = q (.bl true) := congrArg (fun b => q (.bl b)) (show (["list", "tuple", "dict"].any fun T => isTy T "dict") = true by decide +kernel)
theorem isZ_diz (ks : List Key) (l : List D) : sIsi "dict" (.diz ks l) q x = q (.bl true) := congrArg (fun b => q (.bl b)) (show (isTy "dict" "dict") = true by decide +kernel)
theorem isL_diz (ks : List Key) (l : List D) : sIsi "list" (.diz ks l) q x = q (.bl false) := congrArg (fun b => q (.bl b)) (show (isTy "list" "dict") = false by decide +kernel)

end
end K00

set_option exponentiation.threshold 10000
namespace K00
open PySem PySem.Spec PyProof.Rows L2 DL DN
section
variable (q : D → Prop) (x : XD)
def Re (k : Nat) (rc : Fn) : Prop := ∀ m b, m < k → Vz m b → ∀ (q : D → Prop) (x : XD), q (.bl true) → rc [b, b] q x
theorem same_seq (rc : Fn) {l : List D} (hl : ∀ b ∈ l, ∀ (q : D → Prop) (x : XD), q (.bl true) → rc [b, b] q x) (a : D) (ha : a = .lst l ∨ a = .tup l) (h : q (.bl true)) : g__law_is_same rc (startD 5 [a, a]) (entry false q x) := by
  unfold g__law_is_same
  obtain ⟨E, hE⟩ : ∃ E, E = entry false q x := ⟨_, rfl⟩
  have e1 : E.rt = q := by rw [hE]
  have e2 : E.x = x := by rw [hE]
  rw [← hE]
  clear hE
  refine fSeq_split fun R hR => ?_
  clear hR
  rcases ha with rfl | rfl
  all_goals
    simp only [fSeq, fIfS, fRet, fRetN, fDrop, fAsg, fName, fGseq, fGtup, fGcons, fGnil, fVar, fVarL, fDPut, fDGet2, sDGet, sKeys, fK, f1, f2, fNil, fCons, fTup, fLst, fCall, fCall0, fCallG, fCallK, fCallK0, fRaise, fTry, tryX, fTest, gNot, gAnd, gOr, hAnd, hOr, hNot, fIf, fPar2, fPar3, fSkip, fNever, fBrk, fCnt, fIt, fItT, fItL, fFor, forL, startD, entry, pick, D.isNon,
  DL.lt', DL.le', DL.gt', DL.ge', fSl, fPart, fNo, List.map_cons, List.map_nil, List.length_cons, List.length_nil, List.append_nil, List.nil_append, List.cons_append, List.getElem?_cons_zero, List.getElem?_cons_succ, List.set_cons_zero, List.set_cons_succ, List.replicate_succ, List.replicate_zero, List.filterMap_cons, List.filterMap_nil, Nat.zero_add, Nat.reduceAdd, if_true, if_false, Bool.false_eq_true, Nat.sub_self, Nat.reduceSub, List.replicate_zero, List.map_cons, List.map_nil, List.cons_append, List.nil_append, List.append_nil, List.getElem?_cons_zero, List.getElem?_cons_succ, List.set_cons_zero, List.set_cons_succ, List.length_cons, List.length_nil, Nat.zero_add, Nat.reduceAdd, Nat.reduceLT, Nat.reduceLeDiff, true_and, and_true, LN, eq_self, e1, e2, isLT_non, isLTD_non, isZ_non, isL_non, isLT_bl, isLTD_bl, isZ_bl, isL_bl, isLT_int, isLTD_int, isZ_int, isL_int, isLT_str, isLTD_str, isZ_str, isL_str, isLT_tup, isLTD_tup, isZ_tup, isL_tup, isLT_lst, isLTD_lst, isZ_lst, isL_lst, isLT_diz, isLTD_diz, isZ_diz, isL_diz, Bool.not_true, Bool.not_false]
    refine ev_eq_bl _ _ _ _ _ ?_
    simp only [fSeq, fIfS, fRet, fRetN, fDrop, fAsg, fName, fGseq, fGtup, fGcons, fGnil, fVar, fVarL, fDPut, fDGet2, sDGet, sKeys, fK, f1, f2, fNil, fCons, fTup, fLst, fCall, fCall0, fCallG, fCallK, fCallK0, fRaise, fTry, tryX, fTest, gNot, gAnd, gOr, hAnd, hOr, hNot, fIf, fPar2, fPar3, fSkip, fNever, fBrk, fCnt, fIt, fItT, fItL, fFor, forL, startD, entry, pick, D.isNon,
  DL.lt', DL.le', DL.gt', DL.ge', fSl, fPart, fNo, List.map_cons, List.map_nil, List.length_cons, List.length_nil, List.append_nil, List.nil_append, List.cons_append, List.getElem?_cons_zero, List.getElem?_cons_succ, List.set_cons_zero, List.set_cons_succ, List.replicate_succ, List.replicate_zero, List.filterMap_cons, List.filterMap_nil, Nat.zero_add, Nat.reduceAdd, if_true, if_false, Bool.false_eq_true, Nat.sub_self, Nat.reduceSub, List.replicate_zero, List.map_cons, List.map_nil, List.cons_append, List.nil_append, List.append_nil, List.getElem?_cons_zero, List.getElem?_cons_succ, List.set_cons_zero, List.set_cons_succ, List.length_cons, List.length_nil, Nat.zero_add, Nat.reduceAdd, Nat.reduceLT, Nat.reduceLeDiff, true_and, and_true, LN, eq_self, e1, e2, isLT_non, isLTD_non, isZ_non, isL_non, isLT_bl, isLTD_bl, isZ_bl, isL_bl, isLT_int, isLTD_int, isZ_int, isL_int, isLT_str, isLTD_str, isZ_str, isL_str, isLT_tup, isLTD_tup, isZ_tup, isL_tup, isLT_lst, isLTD_lst, isZ_lst, isL_lst, isLT_diz, isLTD_diz, isZ_diz, isL_diz, ev_len_lst, ev_len_tup, ev_eq_int, Bool.false_xor, decide_true, Bool.true_xor, Bool.not_true]
    simp only [fLc, fEnV, fSeq, fIfS, fRet, fRetN, fDrop, fAsg, fName, fGseq, fGtup, fGcons, fGnil, fVar, fVarL, fDPut, fDGet2, sDGet, sKeys, fK, f1, f2, fNil, fCons, fTup, fLst, fCall, fCall0, fCallG, fCallK, fCallK0, fRaise, fTry, tryX, fTest, gNot, gAnd, gOr, hAnd, hOr, hNot, fIf, fPar2, fPar3, fSkip, fNever, fBrk, fCnt, fIt, fItT, fItL, fFor, forL, startD, entry, pick, D.isNon,
  DL.lt', DL.le', DL.gt', DL.ge', fSl, fPart, fNo, List.map_cons, List.map_nil, List.length_cons, List.length_nil, List.append_nil, List.nil_append, List.cons_append, List.getElem?_cons_zero, List.getElem?_cons_succ, List.set_cons_zero, List.set_cons_succ, List.replicate_succ, List.replicate_zero, List.filterMap_cons, List.filterMap_nil, Nat.zero_add, Nat.reduceAdd, if_true, if_false, Bool.false_eq_true, Nat.sub_self, Nat.reduceSub, List.replicate_zero, List.map_cons, List.map_nil, List.cons_append, List.nil_append, List.append_nil, List.getElem?_cons_zero, List.getElem?_cons_succ, List.set_cons_zero, List.set_cons_succ, List.length_cons, List.length_nil, Nat.zero_add, Nat.reduceAdd, Nat.reduceLT, Nat.reduceLeDiff, true_and, and_true, LN, eq_self]
    refine lc_none [] _ (fun c hc Q hQ => ?_) (ev_eq_nil _ _ _ h)
    obtain ⟨i, d, e, rfl⟩ := enumD_mem hc
    refine ⟨rfl, ?_⟩
    simp only [wipeD, fSeq, fIfS, fRet, fRetN, fDrop, fAsg, fName, fGseq, fGtup, fGcons, fGnil, fVar, fVarL, fDPut, fDGet2, sDGet, sKeys, fK, f1, f2, fNil, fCons, fTup, fLst, fCall, fCall0, fCallG, fCallK, fCallK0, fRaise, fTry, tryX, fTest, gNot, gAnd, gOr, hAnd, hOr, hNot, fIf, fPar2, fPar3, fSkip, fNever, fBrk, fCnt, fIt, fItT, fItL, fFor, forL, startD, entry, pick, D.isNon,
  DL.lt', DL.le', DL.gt', DL.ge', fSl, fPart, fNo, List.map_cons, List.map_nil, List.length_cons, List.length_nil, List.append_nil, List.nil_append, List.cons_append, List.getElem?_cons_zero, List.getElem?_cons_succ, List.set_cons_zero, List.set_cons_succ, List.replicate_succ, List.replicate_zero, List.filterMap_cons, List.filterMap_nil, Nat.zero_add, Nat.reduceAdd, if_true, if_false, Bool.false_eq_true, Nat.sub_self, Nat.reduceSub, List.replicate_zero, List.map_cons, List.map_nil, List.cons_append, List.nil_append, List.append_nil, List.getElem?_cons_zero, List.getElem?_cons_succ, List.set_cons_zero, List.set_cons_succ, List.length_cons, List.length_nil, Nat.zero_add, Nat.reduceAdd, Nat.reduceLT, Nat.reduceLeDiff, true_and, and_true, LN, eq_self]
    first
      | rw [ev_ix_lst _ _ (DL.atI_nat e)]
      | rw [ev_ix_tup _ _ (DL.atI_nat e)]
    exact hl d (List.mem_of_getElem? e) _ _ (hQ _)
theorem same_one (rc : Fn) (a : D) (ha : (∃ i : Int, a = .int i ∧ i.natAbs.log2 < 1920) ∨ (∃ s : Str, a = .str s ∧ (reprText s).length ≤ sizeLine) ∨ (∃ b, a = .bl b) ∨ a = .non) (h : q (.bl true)) : g__law_is_same rc (startD 5 [a, a]) (entry false q x) := by
  unfold g__law_is_same
  obtain ⟨E, hE⟩ : ∃ E, E = entry false q x := ⟨_, rfl⟩
  have e1 : E.rt = q := by rw [hE]
  have e2 : E.x = x := by rw [hE]
  rw [← hE]
  clear hE
  have Z : ∀ s : Str, sEq false (.str s) (.str s) q x := fun s => by rw [ev_eq_str, decide_eq_true rfl]; exact h
  rcases ha with ⟨i, rfl, hi⟩ | ⟨s, rfl, hs⟩ | ⟨b, rfl⟩ | rfl
  all_goals simp only [fSeq, fIfS, fRet, fRetN, fDrop, fAsg, fName, fGseq, fGtup, fGcons, fGnil, fVar, fVarL, fDPut, fDGet2, sDGet, sKeys, fK, f1, f2, fNil, fCons, fTup, fLst, fCall, fCall0, fCallG, fCallK, fCallK0, fRaise, fTry, tryX, fTest, gNot, gAnd, gOr, hAnd, hOr, hNot, fIf, fPar2, fPar3, fSkip, fNever, fBrk, fCnt, fIt, fItT, fItL, fFor, forL, startD, entry, pick, D.isNon,
  DL.lt', DL.le', DL.gt', DL.ge', fSl, fPart, fNo, List.map_cons, List.map_nil, List.length_cons, List.length_nil, List.append_nil, List.nil_append, List.cons_append, List.getElem?_cons_zero, List.getElem?_cons_succ, List.set_cons_zero, List.set_cons_succ, List.replicate_succ, List.replicate_zero, List.filterMap_cons, List.filterMap_nil, Nat.zero_add, Nat.reduceAdd, if_true, if_false, Bool.false_eq_true, Nat.sub_self, Nat.reduceSub, List.replicate_zero, List.map_cons, List.map_nil, List.cons_append, List.nil_append, List.append_nil, List.getElem?_cons_zero, List.getElem?_cons_succ, List.set_cons_zero, List.set_cons_succ, List.length_cons, List.length_nil, Nat.zero_add, Nat.reduceAdd, Nat.reduceLT, Nat.reduceLeDiff, true_and, and_true, LN, eq_self, e1, e2, isLT_non, isLTD_non, isZ_non, isL_non, isLT_bl, isLTD_bl, isZ_bl, isL_bl, isLT_int, isLTD_int, isZ_int, isL_int, isLT_str, isLTD_str, isZ_str, isL_str, isLT_tup, isLTD_tup, isZ_tup, isL_tup, isLT_lst, isLTD_lst, isZ_lst, isL_lst, isLT_diz, isLTD_diz, isZ_diz, isL_diz, Bool.not_true, Bool.not_false]
  · exact ⟨hi, hi, Z _⟩
  · exact ⟨hs, hs, Z _⟩
  · exact Z _
  · exact Z _
theorem get_key (l : List D) (m : Int) : getZ [Sum.inr (Str.ofString "key"), Sum.inl 1] [.lst l, .int m] (Sum.inr (Str.ofString "key")) = some (.lst l) := by
  unfold getZ
  rw [if_pos rfl]
theorem get_one (l : List D) (m : Int) : getZ [Sum.inr (Str.ofString "key"), Sum.inl 1] [.lst l, .int m] (Sum.inl 1) = some (.int m) := by
  unfold getZ
  rw [if_neg (by simp)]
  unfold getZ
  rw [if_pos rfl]
theorem has_key : hasZ [Sum.inr (Str.ofString "key"), Sum.inl 1] (Sum.inr (Str.ofString "key")) = true := by decide +kernel
theorem has_one : hasZ [Sum.inr (Str.ofString "key"), Sum.inl 1] (Sum.inl 1) = true := by decide +kernel
theorem same_diz (rc : Fn) (l : List D) (m : Int) (h1 : ∀ (q : D → Prop) (x : XD), q (.bl true) → rc [.lst l, .lst l] q x) (h2 : ∀ (q : D → Prop) (x : XD), q (.bl true) → rc [.int m, .int m] q x) (h : q (.bl true)) :
    g__law_is_same rc (startD 5 [.diz [.inr "key", .inl 1] [.lst l, .int m], .diz [.inr "key", .inl 1] [.lst l, .int m]]) (entry false q x) := by
  unfold g__law_is_same
  obtain ⟨E, hE⟩ : ∃ E, E = entry false q x := ⟨_, rfl⟩
  have e1 : E.rt = q := by rw [hE]
  have e2 : E.x = x := by rw [hE]
  rw [← hE]
  clear hE
  refine fSeq_split fun R hR => ?_
  simp only [fSeq, fIfS, fRet, fRetN, fDrop, fAsg, fName, fGseq, fGtup, fGcons, fGnil, fVar, fVarL, fDPut, fDGet2, sDGet, sKeys, fK, f1, f2, fNil, fCons, fTup, fLst, fCall, fCall0, fCallG, fCallK, fCallK0, fRaise, fTry, tryX, fTest, gNot, gAnd, gOr, hAnd, hOr, hNot, fIf, fPar2, fPar3, fSkip, fNever, fBrk, fCnt, fIt, fItT, fItL, fFor, forL, startD, entry, pick, D.isNon,
  DL.lt', DL.le', DL.gt', DL.ge', fSl, fPart, fNo, List.map_cons, List.map_nil, List.length_cons, List.length_nil, List.append_nil, List.nil_append, List.cons_append, List.getElem?_cons_zero, List.getElem?_cons_succ, List.set_cons_zero, List.set_cons_succ, List.replicate_succ, List.replicate_zero, List.filterMap_cons, List.filterMap_nil, Nat.zero_add, Nat.reduceAdd, if_true, if_false, Bool.false_eq_true, Nat.sub_self, Nat.reduceSub, List.replicate_zero, List.map_cons, List.map_nil, List.cons_append, List.nil_append, List.append_nil, List.getElem?_cons_zero, List.getElem?_cons_succ, List.set_cons_zero, List.set_cons_succ, List.length_cons, List.length_nil, Nat.zero_add, Nat.reduceAdd, Nat.reduceLT, Nat.reduceLeDiff, true_and, and_true, LN, eq_self, e1, e2, isLT_non, isLTD_non, isZ_non, isL_non, isLT_bl, isLTD_bl, isZ_bl, isL_bl, isLT_int, isLTD_int, isZ_int, isL_int, isLT_str, isLTD_str, isZ_str, isL_str, isLT_tup, isLTD_tup, isZ_tup, isL_tup, isLT_lst, isLTD_lst, isZ_lst, isL_lst, isLT_diz, isLTD_diz, isZ_diz, isL_diz, Bool.not_true, Bool.not_false]
  rw [hR]; clear hR R
  refine fSeq_split fun R hR => ?_
  clear hR
  simp only [sLenZ, fSeq, fIfS, fRet, fRetN, fDrop, fAsg, fName, fGseq, fGtup, fGcons, fGnil, fVar, fVarL, fDPut, fDGet2, sDGet, sKeys, fK, f1, f2, fNil, fCons, fTup, fLst, fCall, fCall0, fCallG, fCallK, fCallK0, fRaise, fTry, tryX, fTest, gNot, gAnd, gOr, hAnd, hOr, hNot, fIf, fPar2, fPar3, fSkip, fNever, fBrk, fCnt, fIt, fItT, fItL, fFor, forL, startD, entry, pick, D.isNon,
  DL.lt', DL.le', DL.gt', DL.ge', fSl, fPart, fNo, List.map_cons, List.map_nil, List.length_cons, List.length_nil, List.append_nil, List.nil_append, List.cons_append, List.getElem?_cons_zero, List.getElem?_cons_succ, List.set_cons_zero, List.set_cons_succ, List.replicate_succ, List.replicate_zero, List.filterMap_cons, List.filterMap_nil, Nat.zero_add, Nat.reduceAdd, if_true, if_false, Bool.false_eq_true, Nat.sub_self, Nat.reduceSub, List.replicate_zero, List.map_cons, List.map_nil, List.cons_append, List.nil_append, List.append_nil, List.getElem?_cons_zero, List.getElem?_cons_succ, List.set_cons_zero, List.set_cons_succ, List.length_cons, List.length_nil, Nat.zero_add, Nat.reduceAdd, Nat.reduceLT, Nat.reduceLeDiff, true_and, and_true, LN, eq_self, e1, e2, isLT_non, isLTD_non, isZ_non, isL_non, isLT_bl, isLTD_bl, isZ_bl, isL_bl, isLT_int, isLTD_int, isZ_int, isL_int, isLT_str, isLTD_str, isZ_str, isL_str, isLT_tup, isLTD_tup, isZ_tup, isL_tup, isLT_lst, isLTD_lst, isZ_lst, isL_lst, isLT_diz, isLTD_diz, isZ_diz, isL_diz, Bool.not_true, Bool.not_false, ev_eq_int, decide_true, Bool.true_xor]
  simp only [fLc, fKz, fSeq, fIfS, fRet, fRetN, fDrop, fAsg, fName, fGseq, fGtup, fGcons, fGnil, fVar, fVarL, fDPut, fDGet2, sDGet, sKeys, fK, f1, f2, fNil, fCons, fTup, fLst, fCall, fCall0, fCallG, fCallK, fCallK0, fRaise, fTry, tryX, fTest, gNot, gAnd, gOr, hAnd, hOr, hNot, fIf, fPar2, fPar3, fSkip, fNever, fBrk, fCnt, fIt, fItT, fItL, fFor, forL, startD, entry, pick, D.isNon,
  DL.lt', DL.le', DL.gt', DL.ge', fSl, fPart, fNo, List.map_cons, List.map_nil, List.length_cons, List.length_nil, List.append_nil, List.nil_append, List.cons_append, List.getElem?_cons_zero, List.getElem?_cons_succ, List.set_cons_zero, List.set_cons_succ, List.replicate_succ, List.replicate_zero, List.filterMap_cons, List.filterMap_nil, Nat.zero_add, Nat.reduceAdd, if_true, if_false, Bool.false_eq_true, Nat.sub_self, Nat.reduceSub, List.replicate_zero, List.map_cons, List.map_nil, List.cons_append, List.nil_append, List.append_nil, List.getElem?_cons_zero, List.getElem?_cons_succ, List.set_cons_zero, List.set_cons_succ, List.length_cons, List.length_nil, Nat.zero_add, Nat.reduceAdd, Nat.reduceLT, Nat.reduceLeDiff, true_and, and_true, LN, eq_self, e1, e2]
  refine lc_none [] _ (fun c hc Q hQ => ?_) (ev_eq_nil _ _ _ h)
  have hc : c = .str "key" ∨ c = .int 1 := by simpa [kD] using hc
  refine ⟨show (4 : Nat) < 5 by decide, ?_⟩
  rcases hc with rfl | rfl
  · simp only [wipeD, fNotInZ, fGetZ, keyOfD, fSeq, fIfS, fRet, fRetN, fDrop, fAsg, fName, fGseq, fGtup, fGcons, fGnil, fVar, fVarL, fDPut, fDGet2, sDGet, sKeys, fK, f1, f2, fNil, fCons, fTup, fLst, fCall, fCall0, fCallG, fCallK, fCallK0, fRaise, fTry, tryX, fTest, gNot, gAnd, gOr, hAnd, hOr, hNot, fIf, fPar2, fPar3, fSkip, fNever, fBrk, fCnt, fIt, fItT, fItL, fFor, forL, startD, entry, pick, D.isNon,
  DL.lt', DL.le', DL.gt', DL.ge', fSl, fPart, fNo, List.map_cons, List.map_nil, List.length_cons, List.length_nil, List.append_nil, List.nil_append, List.cons_append, List.getElem?_cons_zero, List.getElem?_cons_succ, List.set_cons_zero, List.set_cons_succ, List.replicate_succ, List.replicate_zero, List.filterMap_cons, List.filterMap_nil, Nat.zero_add, Nat.reduceAdd, if_true, if_false, Bool.false_eq_true, Nat.sub_self, Nat.reduceSub, List.replicate_zero, List.map_cons, List.map_nil, List.cons_append, List.nil_append, List.append_nil, List.getElem?_cons_zero, List.getElem?_cons_succ, List.set_cons_zero, List.set_cons_succ, List.length_cons, List.length_nil, Nat.zero_add, Nat.reduceAdd, Nat.reduceLT, Nat.reduceLeDiff, true_and, and_true, LN, eq_self, has_key, Bool.not_true]
    exact ⟨_, get_key l m, _, get_key l m, h1 _ _ (hQ _)⟩
  · simp only [wipeD, fNotInZ, fGetZ, keyOfD, fSeq, fIfS, fRet, fRetN, fDrop, fAsg, fName, fGseq, fGtup, fGcons, fGnil, fVar, fVarL, fDPut, fDGet2, sDGet, sKeys, fK, f1, f2, fNil, fCons, fTup, fLst, fCall, fCall0, fCallG, fCallK, fCallK0, fRaise, fTry, tryX, fTest, gNot, gAnd, gOr, hAnd, hOr, hNot, fIf, fPar2, fPar3, fSkip, fNever, fBrk, fCnt, fIt, fItT, fItL, fFor, forL, startD, entry, pick, D.isNon,
  DL.lt', DL.le', DL.gt', DL.ge', fSl, fPart, fNo, List.map_cons, List.map_nil, List.length_cons, List.length_nil, List.append_nil, List.nil_append, List.cons_append, List.getElem?_cons_zero, List.getElem?_cons_succ, List.set_cons_zero, List.set_cons_succ, List.replicate_succ, List.replicate_zero, List.filterMap_cons, List.filterMap_nil, Nat.zero_add, Nat.reduceAdd, if_true, if_false, Bool.false_eq_true, Nat.sub_self, Nat.reduceSub, List.replicate_zero, List.map_cons, List.map_nil, List.cons_append, List.nil_append, List.append_nil, List.getElem?_cons_zero, List.getElem?_cons_succ, List.set_cons_zero, List.set_cons_succ, List.length_cons, List.length_nil, Nat.zero_add, Nat.reduceAdd, Nat.reduceLT, Nat.reduceLeDiff, true_and, and_true, LN, eq_self, has_one, Bool.not_true]
    exact ⟨_, get_one l m, _, get_one l m, h2 _ _ (hQ _)⟩
theorem same_step (rc : Fn) {k : Nat} (hrc : Re k rc) {a : D} (ha : Vz k a) (h : q (.bl true)) : g__law_is_same rc (startD 5 [a, a]) (entry false q x) := by
  cases ha with
  | int hi => exact same_one q x rc _ (.inl ⟨_, rfl, hi⟩) h
  | str hs => exact same_one q x rc _ (.inr (.inl ⟨_, rfl, hs⟩)) h
  | bl b => exact same_one q x rc _ (.inr (.inr (.inl ⟨_, rfl⟩))) h
  | non => exact same_one q x rc _ (.inr (.inr (.inr rfl))) h
  | lst hv _ => exact same_seq q x rc (fun b hb => hrc _ b (Nat.lt_succ_self _) (hv b hb)) _ (.inl rfl) h
  | tup hv _ => exact same_seq q x rc (fun b hb => hrc _ b (Nat.lt_succ_self _) (hv b hb)) _ (.inr rfl) h
  | diz hv hl hm => exact same_diz q x rc _ _ (hrc _ _ (Nat.lt_succ_self _) (.lst hv hl)) (hrc _ _ (Nat.lt_succ_self _) (.int hm)) h
theorem re_0 : Re 0 fn__law_is_same_0 := fun m _ hm => absurd hm (Nat.not_lt_zero _)
theorem re_1 : Re 1 fn__law_is_same_1 := fun m b hm hb q x h => by
  rw [fn__law_is_same_1_eq]
  exact ⟨rfl, same_step q x _ re_0 (hb.mono (Nat.le_of_lt_succ hm)) h⟩
theorem re_2 : Re 2 fn__law_is_same_2 := fun m b hm hb q x h => by
  rw [fn__law_is_same_2_eq]
  exact ⟨rfl, same_step q x _ re_1 (hb.mono (Nat.le_of_lt_succ hm)) h⟩
theorem re_3 : Re 3 fn__law_is_same_3 := fun m b hm hb q x h => by
  rw [fn__law_is_same_3_eq]
  exact ⟨rfl, same_step q x _ re_2 (hb.mono (Nat.le_of_lt_succ hm)) h⟩
theorem re_4 : Re 4 fn__law_is_same_4 := fun m b hm hb q x h => by
  rw [fn__law_is_same_4_eq]
  exact ⟨rfl, same_step q x _ re_3 (hb.mono (Nat.le_of_lt_succ hm)) h⟩
theorem re_5 : Re 5 fn__law_is_same_5 := fun m b hm hb q x h => by
  rw [fn__law_is_same_5_eq]
  exact ⟨rfl, same_step q x _ re_4 (hb.mono (Nat.le_of_lt_succ hm)) h⟩
theorem re_6 : Re 6 fn__law_is_same_6 := fun m b hm hb q x h => by
  rw [fn__law_is_same_6_eq]
  exact ⟨rfl, same_step q x _ re_5 (hb.mono (Nat.le_of_lt_succ hm)) h⟩
theorem re_7 : Re 7 fn__law_is_same_7 := fun m b hm hb q x h => by
  rw [fn__law_is_same_7_eq]
  exact ⟨rfl, same_step q x _ re_6 (hb.mono (Nat.le_of_lt_succ hm)) h⟩
theorem re_8 : Re 8 fn__law_is_same_8 := fun m b hm hb q x h => by
  rw [fn__law_is_same_8_eq]
  exact ⟨rfl, same_step q x _ re_7 (hb.mono (Nat.le_of_lt_succ hm)) h⟩
theorem re_9 : Re 9 fn__law_is_same_9 := fun m b hm hb q x h => by
  rw [fn__law_is_same_9_eq]
  exact ⟨rfl, same_step q x _ re_8 (hb.mono (Nat.le_of_lt_succ hm)) h⟩
theorem same_go {a : D} (ha : Vz 8 a) (h : q (.bl true)) : fn__law_is_same [a, a] q x := re_9 8 a (by decide) ha q x h
end

end K00

set_option exponentiation.threshold 10000
namespace K00
open PySem PySem.Spec PyProof.Rows L2 DL DN
section
variable (q : D → Prop) (x : XD)
def EL : List Str := ["BadNumber", "OtherRoot", "BadPolynomial", "BadRule", "BadPlace", "BadCount", "BadFormula", "NoFormula", "BadClass", "BadGrowth", "BadLine", "ZeroMiddle", "BadShift", "BadFactor", "BadParameter"]
def errs (it : D) : List D := [.err "BadNumber" it, .err "OtherRoot" it, .err "BadPolynomial" it, .err "BadRule" it, .err "BadPlace" it, .err "BadCount" it, .err "BadFormula" it, .err "NoFormula" it, .err "BadClass" it, .err "BadGrowth" it, .err "BadLine" it, .err "ZeroMiddle" it, .err "BadShift" it, .err "BadFactor" it, .err "BadParameter" it]
theorem by_position_go (it : D) (h : q (.lst (errs it))) : fn__law_by_position [it] q x := by
  rw [fn__law_by_position_eq]; unfold g__law_by_position
  refine ⟨rfl, ?_⟩
  rw [show startD 2 [it] = [some it, none] from rfl]
  obtain ⟨E, hE⟩ : ∃ E, E = entry false q x := ⟨_, rfl⟩
  have e1 : E.rt = q := by rw [hE]
  have e2 : E.x = x := by rw [hE]
  rw [← hE]
  clear hE
  refine fSeq_split fun R hR => ?_
  dsimp only [fErr, fSeq, fIfS, fRet, fRetN, fDrop, fAsg, fName, fGseq, fGtup, fGcons, fGnil, fVar, fVarL, fDPut, fDGet2, sDGet, sKeys, fK, f1, f2, fNil, fCons, fTup, fLst, fCall, fCall0, fCallG, fCallK, fCallK0, fRaise, fTry, tryX, fTest, gNot, gAnd, gOr, hAnd, hOr, hNot, fIf, fPar2, fPar3, fSkip, fNever, fBrk, fCnt, fIt, fItT, fItL, fFor, forL, startD, entry, pick, D.isNon,
  DL.lt', DL.le', DL.gt', DL.ge', fSl, fPart, fNo, List.map_cons, List.map_nil, List.length_cons, List.length_nil, List.append_nil, List.nil_append, List.cons_append, List.getElem?_cons_zero, List.getElem?_cons_succ, List.set_cons_zero, List.set_cons_succ, List.replicate_succ, List.replicate_zero, List.filterMap_cons, List.filterMap_nil, Nat.zero_add, Nat.reduceAdd, if_true, if_false, Bool.false_eq_true]
  try simp only [e1, e2]
  refine ⟨LNle (by decide), ?_⟩
  refine ⟨show (1 : Nat) < 2 by decide, ?_⟩
  rw [hR]; clear hR R
  refine fSeq_split fun R hR => ?_
  dsimp only [fErr, fSeq, fIfS, fRet, fRetN, fDrop, fAsg, fName, fGseq, fGtup, fGcons, fGnil, fVar, fVarL, fDPut, fDGet2, sDGet, sKeys, fK, f1, f2, fNil, fCons, fTup, fLst, fCall, fCall0, fCallG, fCallK, fCallK0, fRaise, fTry, tryX, fTest, gNot, gAnd, gOr, hAnd, hOr, hNot, fIf, fPar2, fPar3, fSkip, fNever, fBrk, fCnt, fIt, fItT, fItL, fFor, forL, startD, entry, pick, D.isNon,
  DL.lt', DL.le', DL.gt', DL.ge', fSl, fPart, fNo, List.map_cons, List.map_nil, List.length_cons, List.length_nil, List.append_nil, List.nil_append, List.cons_append, List.getElem?_cons_zero, List.getElem?_cons_succ, List.set_cons_zero, List.set_cons_succ, List.replicate_succ, List.replicate_zero, List.filterMap_cons, List.filterMap_nil, Nat.zero_add, Nat.reduceAdd, if_true, if_false, Bool.false_eq_true]
  try simp only [e1, e2]
  refine ⟨LNle (by decide), ?_⟩
  rw [ev_add_lst]
  refine ⟨LNle (by simp), ?_⟩
  refine ⟨show (1 : Nat) < 2 by decide, ?_⟩
  rw [hR]; clear hR R
  dsimp only [fErr, fSeq, fIfS, fRet, fRetN, fDrop, fAsg, fName, fGseq, fGtup, fGcons, fGnil, fVar, fVarL, fDPut, fDGet2, sDGet, sKeys, fK, f1, f2, fNil, fCons, fTup, fLst, fCall, fCall0, fCallG, fCallK, fCallK0, fRaise, fTry, tryX, fTest, gNot, gAnd, gOr, hAnd, hOr, hNot, fIf, fPar2, fPar3, fSkip, fNever, fBrk, fCnt, fIt, fItT, fItL, fFor, forL, startD, entry, pick, D.isNon,
  DL.lt', DL.le', DL.gt', DL.ge', fSl, fPart, fNo, List.map_cons, List.map_nil, List.length_cons, List.length_nil, List.append_nil, List.nil_append, List.cons_append, List.getElem?_cons_zero, List.getElem?_cons_succ, List.set_cons_zero, List.set_cons_succ, List.replicate_succ, List.replicate_zero, List.filterMap_cons, List.filterMap_nil, Nat.zero_add, Nat.reduceAdd, if_true, if_false, Bool.false_eq_true]
  try simp only [e1, e2]
  refine ⟨LNle (by decide), ?_⟩
  rw [ev_add_lst]
  refine ⟨LNle (by simp), ?_⟩
  exact h
theorem by_name_go (it : D) (h : q (.lst (errs it))) : fn__law_by_name [it] q x := by
  rw [fn__law_by_name_eq]; unfold g__law_by_name
  refine ⟨rfl, ?_⟩
  rw [show startD 2 [it] = [some it, none] from rfl]
  obtain ⟨E, hE⟩ : ∃ E, E = entry false q x := ⟨_, rfl⟩
  have e1 : E.rt = q := by rw [hE]
  have e2 : E.x = x := by rw [hE]
  rw [← hE]
  clear hE
  refine fSeq_split fun R hR => ?_
  dsimp only [fErrK, fSeq, fIfS, fRet, fRetN, fDrop, fAsg, fName, fGseq, fGtup, fGcons, fGnil, fVar, fVarL, fDPut, fDGet2, sDGet, sKeys, fK, f1, f2, fNil, fCons, fTup, fLst, fCall, fCall0, fCallG, fCallK, fCallK0, fRaise, fTry, tryX, fTest, gNot, gAnd, gOr, hAnd, hOr, hNot, fIf, fPar2, fPar3, fSkip, fNever, fBrk, fCnt, fIt, fItT, fItL, fFor, forL, startD, entry, pick, D.isNon,
  DL.lt', DL.le', DL.gt', DL.ge', fSl, fPart, fNo, List.map_cons, List.map_nil, List.length_cons, List.length_nil, List.append_nil, List.nil_append, List.cons_append, List.getElem?_cons_zero, List.getElem?_cons_succ, List.set_cons_zero, List.set_cons_succ, List.replicate_succ, List.replicate_zero, List.filterMap_cons, List.filterMap_nil, Nat.zero_add, Nat.reduceAdd, if_true, if_false, Bool.false_eq_true]
  try simp only [e1, e2]
  refine ⟨LNle (by decide), ?_⟩
  refine ⟨show (1 : Nat) < 2 by decide, ?_⟩
  rw [hR]; clear hR R
  refine fSeq_split fun R hR => ?_
  dsimp only [fErrK, fSeq, fIfS, fRet, fRetN, fDrop, fAsg, fName, fGseq, fGtup, fGcons, fGnil, fVar, fVarL, fDPut, fDGet2, sDGet, sKeys, fK, f1, f2, fNil, fCons, fTup, fLst, fCall, fCall0, fCallG, fCallK, fCallK0, fRaise, fTry, tryX, fTest, gNot, gAnd, gOr, hAnd, hOr, hNot, fIf, fPar2, fPar3, fSkip, fNever, fBrk, fCnt, fIt, fItT, fItL, fFor, forL, startD, entry, pick, D.isNon,
  DL.lt', DL.le', DL.gt', DL.ge', fSl, fPart, fNo, List.map_cons, List.map_nil, List.length_cons, List.length_nil, List.append_nil, List.nil_append, List.cons_append, List.getElem?_cons_zero, List.getElem?_cons_succ, List.set_cons_zero, List.set_cons_succ, List.replicate_succ, List.replicate_zero, List.filterMap_cons, List.filterMap_nil, Nat.zero_add, Nat.reduceAdd, if_true, if_false, Bool.false_eq_true]
  try simp only [e1, e2]
  refine ⟨LNle (by decide), ?_⟩
  rw [ev_add_lst]
  refine ⟨LNle (by simp), ?_⟩
  refine ⟨show (1 : Nat) < 2 by decide, ?_⟩
  rw [hR]; clear hR R
  refine fSeq_split fun R hR => ?_
  dsimp only [fErrK, fSeq, fIfS, fRet, fRetN, fDrop, fAsg, fName, fGseq, fGtup, fGcons, fGnil, fVar, fVarL, fDPut, fDGet2, sDGet, sKeys, fK, f1, f2, fNil, fCons, fTup, fLst, fCall, fCall0, fCallG, fCallK, fCallK0, fRaise, fTry, tryX, fTest, gNot, gAnd, gOr, hAnd, hOr, hNot, fIf, fPar2, fPar3, fSkip, fNever, fBrk, fCnt, fIt, fItT, fItL, fFor, forL, startD, entry, pick, D.isNon,
  DL.lt', DL.le', DL.gt', DL.ge', fSl, fPart, fNo, List.map_cons, List.map_nil, List.length_cons, List.length_nil, List.append_nil, List.nil_append, List.cons_append, List.getElem?_cons_zero, List.getElem?_cons_succ, List.set_cons_zero, List.set_cons_succ, List.replicate_succ, List.replicate_zero, List.filterMap_cons, List.filterMap_nil, Nat.zero_add, Nat.reduceAdd, if_true, if_false, Bool.false_eq_true]
  try simp only [e1, e2]
  refine ⟨LNle (by decide), ?_⟩
  rw [ev_add_lst]
  refine ⟨LNle (by simp), ?_⟩
  refine ⟨show (1 : Nat) < 2 by decide, ?_⟩
  rw [hR]; clear hR R
  dsimp only [fErrK, fSeq, fIfS, fRet, fRetN, fDrop, fAsg, fName, fGseq, fGtup, fGcons, fGnil, fVar, fVarL, fDPut, fDGet2, sDGet, sKeys, fK, f1, f2, fNil, fCons, fTup, fLst, fCall, fCall0, fCallG, fCallK, fCallK0, fRaise, fTry, tryX, fTest, gNot, gAnd, gOr, hAnd, hOr, hNot, fIf, fPar2, fPar3, fSkip, fNever, fBrk, fCnt, fIt, fItT, fItL, fFor, forL, startD, entry, pick, D.isNon,
  DL.lt', DL.le', DL.gt', DL.ge', fSl, fPart, fNo, List.map_cons, List.map_nil, List.length_cons, List.length_nil, List.append_nil, List.nil_append, List.cons_append, List.getElem?_cons_zero, List.getElem?_cons_succ, List.set_cons_zero, List.set_cons_succ, List.replicate_succ, List.replicate_zero, List.filterMap_cons, List.filterMap_nil, Nat.zero_add, Nat.reduceAdd, if_true, if_false, Bool.false_eq_true]
  try simp only [e1, e2]
  refine ⟨LNle (by decide), ?_⟩
  rw [ev_add_lst]
  refine ⟨LNle (by simp), ?_⟩
  exact h
theorem ix_0 (it : D) : sIx (.lst (errs it)) (.int 0) q x = q (.err "BadNumber" it) := ev_ix_lst q x (DL.atI_nat (n := 0) rfl)
theorem th_0 (it : D) : sThing errL (.err "BadNumber" it) q x = q it := propext ⟨fun h => h.2, fun h => ⟨by decide +kernel, h⟩⟩
theorem ix_1 (it : D) : sIx (.lst (errs it)) (.int 1) q x = q (.err "OtherRoot" it) := ev_ix_lst q x (DL.atI_nat (n := 1) rfl)
theorem th_1 (it : D) : sThing errL (.err "OtherRoot" it) q x = q it := propext ⟨fun h => h.2, fun h => ⟨by decide +kernel, h⟩⟩
theorem ix_2 (it : D) : sIx (.lst (errs it)) (.int 2) q x = q (.err "BadPolynomial" it) := ev_ix_lst q x (DL.atI_nat (n := 2) rfl)
theorem th_2 (it : D) : sThing errL (.err "BadPolynomial" it) q x = q it := propext ⟨fun h => h.2, fun h => ⟨by decide +kernel, h⟩⟩
theorem ix_3 (it : D) : sIx (.lst (errs it)) (.int 3) q x = q (.err "BadRule" it) := ev_ix_lst q x (DL.atI_nat (n := 3) rfl)
theorem th_3 (it : D) : sThing errL (.err "BadRule" it) q x = q it := propext ⟨fun h => h.2, fun h => ⟨by decide +kernel, h⟩⟩
theorem ix_4 (it : D) : sIx (.lst (errs it)) (.int 4) q x = q (.err "BadPlace" it) := ev_ix_lst q x (DL.atI_nat (n := 4) rfl)
theorem th_4 (it : D) : sThing errL (.err "BadPlace" it) q x = q it := propext ⟨fun h => h.2, fun h => ⟨by decide +kernel, h⟩⟩
theorem ix_5 (it : D) : sIx (.lst (errs it)) (.int 5) q x = q (.err "BadCount" it) := ev_ix_lst q x (DL.atI_nat (n := 5) rfl)
theorem th_5 (it : D) : sThing errL (.err "BadCount" it) q x = q it := propext ⟨fun h => h.2, fun h => ⟨by decide +kernel, h⟩⟩
theorem ix_6 (it : D) : sIx (.lst (errs it)) (.int 6) q x = q (.err "BadFormula" it) := ev_ix_lst q x (DL.atI_nat (n := 6) rfl)
theorem th_6 (it : D) : sThing errL (.err "BadFormula" it) q x = q it := propext ⟨fun h => h.2, fun h => ⟨by decide +kernel, h⟩⟩
theorem ix_7 (it : D) : sIx (.lst (errs it)) (.int 7) q x = q (.err "NoFormula" it) := ev_ix_lst q x (DL.atI_nat (n := 7) rfl)
theorem th_7 (it : D) : sThing errL (.err "NoFormula" it) q x = q it := propext ⟨fun h => h.2, fun h => ⟨by decide +kernel, h⟩⟩
theorem ix_8 (it : D) : sIx (.lst (errs it)) (.int 8) q x = q (.err "BadClass" it) := ev_ix_lst q x (DL.atI_nat (n := 8) rfl)
theorem th_8 (it : D) : sThing errL (.err "BadClass" it) q x = q it := propext ⟨fun h => h.2, fun h => ⟨by decide +kernel, h⟩⟩
theorem ix_9 (it : D) : sIx (.lst (errs it)) (.int 9) q x = q (.err "BadGrowth" it) := ev_ix_lst q x (DL.atI_nat (n := 9) rfl)
theorem th_9 (it : D) : sThing errL (.err "BadGrowth" it) q x = q it := propext ⟨fun h => h.2, fun h => ⟨by decide +kernel, h⟩⟩
theorem ix_10 (it : D) : sIx (.lst (errs it)) (.int 10) q x = q (.err "BadLine" it) := ev_ix_lst q x (DL.atI_nat (n := 10) rfl)
theorem th_10 (it : D) : sThing errL (.err "BadLine" it) q x = q it := propext ⟨fun h => h.2, fun h => ⟨by decide +kernel, h⟩⟩
theorem ix_11 (it : D) : sIx (.lst (errs it)) (.int 11) q x = q (.err "ZeroMiddle" it) := ev_ix_lst q x (DL.atI_nat (n := 11) rfl)
theorem th_11 (it : D) : sThing errL (.err "ZeroMiddle" it) q x = q it := propext ⟨fun h => h.2, fun h => ⟨by decide +kernel, h⟩⟩
theorem ix_12 (it : D) : sIx (.lst (errs it)) (.int 12) q x = q (.err "BadShift" it) := ev_ix_lst q x (DL.atI_nat (n := 12) rfl)
theorem th_12 (it : D) : sThing errL (.err "BadShift" it) q x = q it := propext ⟨fun h => h.2, fun h => ⟨by decide +kernel, h⟩⟩
theorem ix_13 (it : D) : sIx (.lst (errs it)) (.int 13) q x = q (.err "BadFactor" it) := ev_ix_lst q x (DL.atI_nat (n := 13) rfl)
theorem th_13 (it : D) : sThing errL (.err "BadFactor" it) q x = q it := propext ⟨fun h => h.2, fun h => ⟨by decide +kernel, h⟩⟩
theorem ix_14 (it : D) : sIx (.lst (errs it)) (.int 14) q x = q (.err "BadParameter" it) := ev_ix_lst q x (DL.atI_nat (n := 14) rfl)
theorem th_14 (it : D) : sThing errL (.err "BadParameter" it) q x = q it := propext ⟨fun h => h.2, fun h => ⟨by decide +kernel, h⟩⟩
theorem carried_go (it : D) (h : q (.lst (List.replicate 15 it))) : fn__law_carried [.lst (errs it)] q x := by
  rw [fn__law_carried_eq]; unfold g__law_carried
  refine ⟨rfl, ?_⟩
  rw [show startD 2 [.lst (errs it)] = [some (.lst (errs it)), none] from rfl]
  obtain ⟨E, hE⟩ : ∃ E, E = entry false q x := ⟨_, rfl⟩
  have e1 : E.rt = q := by rw [hE]
  have e2 : E.x = x := by rw [hE]
  rw [← hE]
  clear hE
  refine fSeq_split fun R hR => ?_
  dsimp only [fSeq, fIfS, fRet, fRetN, fDrop, fAsg, fName, fGseq, fGtup, fGcons, fGnil, fVar, fVarL, fDPut, fDGet2, sDGet, sKeys, fK, f1, f2, fNil, fCons, fTup, fLst, fCall, fCall0, fCallG, fCallK, fCallK0, fRaise, fTry, tryX, fTest, gNot, gAnd, gOr, hAnd, hOr, hNot, fIf, fPar2, fPar3, fSkip, fNever, fBrk, fCnt, fIt, fItT, fItL, fFor, forL, startD, entry, pick, D.isNon,
  DL.lt', DL.le', DL.gt', DL.ge', fSl, fPart, fNo, List.map_cons, List.map_nil, List.length_cons, List.length_nil, List.append_nil, List.nil_append, List.cons_append, List.getElem?_cons_zero, List.getElem?_cons_succ, List.set_cons_zero, List.set_cons_succ, List.replicate_succ, List.replicate_zero, List.filterMap_cons, List.filterMap_nil, Nat.zero_add, Nat.reduceAdd, if_true, if_false, Bool.false_eq_true]
  try simp only [e1, e2, ix_0, th_0, ix_1, th_1, ix_2, th_2, ix_3, th_3, ix_4, th_4, ix_5, th_5, ix_6, th_6, ix_7, th_7, ix_8, th_8, ix_9, th_9, ix_10, th_10, ix_11, th_11, ix_12, th_12, ix_13, th_13, ix_14, th_14]
  refine ⟨LNle (by decide), ?_⟩
  refine ⟨show (1 : Nat) < 2 by decide, ?_⟩
  rw [hR]; clear hR R
  refine fSeq_split fun R hR => ?_
  dsimp only [fSeq, fIfS, fRet, fRetN, fDrop, fAsg, fName, fGseq, fGtup, fGcons, fGnil, fVar, fVarL, fDPut, fDGet2, sDGet, sKeys, fK, f1, f2, fNil, fCons, fTup, fLst, fCall, fCall0, fCallG, fCallK, fCallK0, fRaise, fTry, tryX, fTest, gNot, gAnd, gOr, hAnd, hOr, hNot, fIf, fPar2, fPar3, fSkip, fNever, fBrk, fCnt, fIt, fItT, fItL, fFor, forL, startD, entry, pick, D.isNon,
  DL.lt', DL.le', DL.gt', DL.ge', fSl, fPart, fNo, List.map_cons, List.map_nil, List.length_cons, List.length_nil, List.append_nil, List.nil_append, List.cons_append, List.getElem?_cons_zero, List.getElem?_cons_succ, List.set_cons_zero, List.set_cons_succ, List.replicate_succ, List.replicate_zero, List.filterMap_cons, List.filterMap_nil, Nat.zero_add, Nat.reduceAdd, if_true, if_false, Bool.false_eq_true]
  try simp only [e1, e2, ix_0, th_0, ix_1, th_1, ix_2, th_2, ix_3, th_3, ix_4, th_4, ix_5, th_5, ix_6, th_6, ix_7, th_7, ix_8, th_8, ix_9, th_9, ix_10, th_10, ix_11, th_11, ix_12, th_12, ix_13, th_13, ix_14, th_14]
  refine ⟨LNle (by decide), ?_⟩
  rw [ev_add_lst]
  refine ⟨LNle (by simp), ?_⟩
  refine ⟨show (1 : Nat) < 2 by decide, ?_⟩
  rw [hR]; clear hR R
  dsimp only [fSeq, fIfS, fRet, fRetN, fDrop, fAsg, fName, fGseq, fGtup, fGcons, fGnil, fVar, fVarL, fDPut, fDGet2, sDGet, sKeys, fK, f1, f2, fNil, fCons, fTup, fLst, fCall, fCall0, fCallG, fCallK, fCallK0, fRaise, fTry, tryX, fTest, gNot, gAnd, gOr, hAnd, hOr, hNot, fIf, fPar2, fPar3, fSkip, fNever, fBrk, fCnt, fIt, fItT, fItL, fFor, forL, startD, entry, pick, D.isNon,
  DL.lt', DL.le', DL.gt', DL.ge', fSl, fPart, fNo, List.map_cons, List.map_nil, List.length_cons, List.length_nil, List.append_nil, List.nil_append, List.cons_append, List.getElem?_cons_zero, List.getElem?_cons_succ, List.set_cons_zero, List.set_cons_succ, List.replicate_succ, List.replicate_zero, List.filterMap_cons, List.filterMap_nil, Nat.zero_add, Nat.reduceAdd, if_true, if_false, Bool.false_eq_true]
  try simp only [e1, e2, ix_0, th_0, ix_1, th_1, ix_2, th_2, ix_3, th_3, ix_4, th_4, ix_5, th_5, ix_6, th_6, ix_7, th_7, ix_8, th_8, ix_9, th_9, ix_10, th_10, ix_11, th_11, ix_12, th_12, ix_13, th_13, ix_14, th_14]
  refine ⟨LNle (by decide), ?_⟩
  rw [ev_add_lst]
  refine ⟨LNle (by simp), ?_⟩
  exact h
end

end K00

set_option exponentiation.threshold 10000
namespace K00
open PySem PySem.Spec PyProof.Rows L2 DL DN
section
variable (q : D → Prop) (x : XD)
theorem isa_go {n : Str} (hn : n ∈ errL) (b : Str → Bool) (it : D) : sIsa errL b (.err n it) q x = q (.bl (b n)) := propext ⟨fun h => h.2, fun h => ⟨hn, h⟩⟩
def kb (n : Str) : List Bool := [isErr n "BadNumber", isErr n "OtherRoot", isErr n "BadPolynomial", isErr n "BadRule", isErr n "BadPlace", isErr n "BadCount", isErr n "BadFormula", isErr n "NoFormula", isErr n "BadClass", isErr n "BadGrowth", isErr n "BadLine", isErr n "ZeroMiddle", isErr n "BadShift", isErr n "BadFactor", isErr n "BadParameter"]
theorem kb_hv (n : Str) : hv__law_kindsE n = .lst ((kb n).map D.bl) := rfl
def row (a : Nat) : List Bool := (List.range 15).map fun p => decide (p = a)
theorem kb_row : ∀ a n, EL[a]? = some n → kb n = row a
  | 0, _, rfl => by decide +kernel
  | 1, _, rfl => by decide +kernel
  | 2, _, rfl => by decide +kernel
  | 3, _, rfl => by decide +kernel
  | 4, _, rfl => by decide +kernel
  | 5, _, rfl => by decide +kernel
  | 6, _, rfl => by decide +kernel
  | 7, _, rfl => by decide +kernel
  | 8, _, rfl => by decide +kernel
  | 9, _, rfl => by decide +kernel
  | 10, _, rfl => by decide +kernel
  | 11, _, rfl => by decide +kernel
  | 12, _, rfl => by decide +kernel
  | 13, _, rfl => by decide +kernel
  | 14, _, rfl => by decide +kernel
  | (a + 15), n, h => by cases h
theorem ok_bls : ∀ l : List Bool, D.oks (l.map D.bl) = true
  | [] => rfl
  | b :: l => ok_bls l
theorem dep_bls : ∀ l : List Bool, D.deps (l.map D.bl) = 0
  | [] => rfl
  | b :: l => by show max 0 (D.deps (l.map D.bl)) = 0; rw [dep_bls l]; rfl
theorem eq_bls (n : Bool) (l : List Bool) (h : q (.bl (n ^^ true))) : sEq n (.lst (l.map D.bl)) (.lst (l.map D.bl)) q x := by
  have e : (D.lst (l.map D.bl)).ok = true := ok_bls l
  have d : (D.lst (l.map D.bl)).dep ≤ 64 := by show D.deps (l.map D.bl) + 1 ≤ 64; rw [dep_bls]; decide
  refine ⟨e, e, d, d, ?_⟩
  rw [eqD_self _ e]
  exact h
theorem kinds_go {n : Str} (hn : n ∈ errL) (it : D) (h : q (.lst ((kb n).map D.bl))) : fn__law_kinds [.err n it] q x := by
  rw [fn__law_kinds_eq]; unfold g__law_kinds
  refine ⟨rfl, ?_⟩
  rw [show startD 2 [.err n it] = [some (.err n it), none] from rfl]
  obtain ⟨E, hE⟩ : ∃ E, E = entry false q x := ⟨_, rfl⟩
  have e1 : E.rt = q := by rw [hE]
  have e2 : E.x = x := by rw [hE]
  rw [← hE]
  clear hE
  refine fSeq_split fun R hR => ?_
  dsimp only [fSeq, fIfS, fRet, fRetN, fDrop, fAsg, fName, fGseq, fGtup, fGcons, fGnil, fVar, fVarL, fDPut, fDGet2, sDGet, sKeys, fK, f1, f2, fNil, fCons, fTup, fLst, fCall, fCall0, fCallG, fCallK, fCallK0, fRaise, fTry, tryX, fTest, gNot, gAnd, gOr, hAnd, hOr, hNot, fIf, fPar2, fPar3, fSkip, fNever, fBrk, fCnt, fIt, fItT, fItL, fFor, forL, startD, entry, pick, D.isNon,
  DL.lt', DL.le', DL.gt', DL.ge', fSl, fPart, fNo, List.map_cons, List.map_nil, List.length_cons, List.length_nil, List.append_nil, List.nil_append, List.cons_append, List.getElem?_cons_zero, List.getElem?_cons_succ, List.set_cons_zero, List.set_cons_succ, List.replicate_succ, List.replicate_zero, List.filterMap_cons, List.filterMap_nil, Nat.zero_add, Nat.reduceAdd, if_true, if_false, Bool.false_eq_true]
  simp only [e1, e2, isa_go _ _ hn]
  refine ⟨LNle (by decide), ?_⟩
  refine ⟨show (1 : Nat) < 2 by decide, ?_⟩
  rw [hR]; clear hR R
  refine fSeq_split fun R hR => ?_
  dsimp only [fSeq, fIfS, fRet, fRetN, fDrop, fAsg, fName, fGseq, fGtup, fGcons, fGnil, fVar, fVarL, fDPut, fDGet2, sDGet, sKeys, fK, f1, f2, fNil, fCons, fTup, fLst, fCall, fCall0, fCallG, fCallK, fCallK0, fRaise, fTry, tryX, fTest, gNot, gAnd, gOr, hAnd, hOr, hNot, fIf, fPar2, fPar3, fSkip, fNever, fBrk, fCnt, fIt, fItT, fItL, fFor, forL, startD, entry, pick, D.isNon,
  DL.lt', DL.le', DL.gt', DL.ge', fSl, fPart, fNo, List.map_cons, List.map_nil, List.length_cons, List.length_nil, List.append_nil, List.nil_append, List.cons_append, List.getElem?_cons_zero, List.getElem?_cons_succ, List.set_cons_zero, List.set_cons_succ, List.replicate_succ, List.replicate_zero, List.filterMap_cons, List.filterMap_nil, Nat.zero_add, Nat.reduceAdd, if_true, if_false, Bool.false_eq_true]
  simp only [e1, e2, isa_go _ _ hn]
  refine ⟨LNle (by decide), ?_⟩
  rw [ev_add_lst]
  refine ⟨LNle (by simp), ?_⟩
  refine ⟨show (1 : Nat) < 2 by decide, ?_⟩
  rw [hR]; clear hR R
  refine fSeq_split fun R hR => ?_
  dsimp only [fSeq, fIfS, fRet, fRetN, fDrop, fAsg, fName, fGseq, fGtup, fGcons, fGnil, fVar, fVarL, fDPut, fDGet2, sDGet, sKeys, fK, f1, f2, fNil, fCons, fTup, fLst, fCall, fCall0, fCallG, fCallK, fCallK0, fRaise, fTry, tryX, fTest, gNot, gAnd, gOr, hAnd, hOr, hNot, fIf, fPar2, fPar3, fSkip, fNever, fBrk, fCnt, fIt, fItT, fItL, fFor, forL, startD, entry, pick, D.isNon,
  DL.lt', DL.le', DL.gt', DL.ge', fSl, fPart, fNo, List.map_cons, List.map_nil, List.length_cons, List.length_nil, List.append_nil, List.nil_append, List.cons_append, List.getElem?_cons_zero, List.getElem?_cons_succ, List.set_cons_zero, List.set_cons_succ, List.replicate_succ, List.replicate_zero, List.filterMap_cons, List.filterMap_nil, Nat.zero_add, Nat.reduceAdd, if_true, if_false, Bool.false_eq_true]
  simp only [e1, e2, isa_go _ _ hn]
  refine ⟨LNle (by decide), ?_⟩
  rw [ev_add_lst]
  refine ⟨LNle (by simp), ?_⟩
  refine ⟨show (1 : Nat) < 2 by decide, ?_⟩
  rw [hR]; clear hR R
  refine fSeq_split fun R hR => ?_
  dsimp only [fSeq, fIfS, fRet, fRetN, fDrop, fAsg, fName, fGseq, fGtup, fGcons, fGnil, fVar, fVarL, fDPut, fDGet2, sDGet, sKeys, fK, f1, f2, fNil, fCons, fTup, fLst, fCall, fCall0, fCallG, fCallK, fCallK0, fRaise, fTry, tryX, fTest, gNot, gAnd, gOr, hAnd, hOr, hNot, fIf, fPar2, fPar3, fSkip, fNever, fBrk, fCnt, fIt, fItT, fItL, fFor, forL, startD, entry, pick, D.isNon,
  DL.lt', DL.le', DL.gt', DL.ge', fSl, fPart, fNo, List.map_cons, List.map_nil, List.length_cons, List.length_nil, List.append_nil, List.nil_append, List.cons_append, List.getElem?_cons_zero, List.getElem?_cons_succ, List.set_cons_zero, List.set_cons_succ, List.replicate_succ, List.replicate_zero, List.filterMap_cons, List.filterMap_nil, Nat.zero_add, Nat.reduceAdd, if_true, if_false, Bool.false_eq_true]
  simp only [e1, e2, isa_go _ _ hn]
  refine ⟨LNle (by decide), ?_⟩
  rw [ev_add_lst]
  refine ⟨LNle (by simp), ?_⟩
  refine ⟨show (1 : Nat) < 2 by decide, ?_⟩
  rw [hR]; clear hR R
  dsimp only [fSeq, fIfS, fRet, fRetN, fDrop, fAsg, fName, fGseq, fGtup, fGcons, fGnil, fVar, fVarL, fDPut, fDGet2, sDGet, sKeys, fK, f1, f2, fNil, fCons, fTup, fLst, fCall, fCall0, fCallG, fCallK, fCallK0, fRaise, fTry, tryX, fTest, gNot, gAnd, gOr, hAnd, hOr, hNot, fIf, fPar2, fPar3, fSkip, fNever, fBrk, fCnt, fIt, fItT, fItL, fFor, forL, startD, entry, pick, D.isNon,
  DL.lt', DL.le', DL.gt', DL.ge', fSl, fPart, fNo, List.map_cons, List.map_nil, List.length_cons, List.length_nil, List.append_nil, List.nil_append, List.cons_append, List.getElem?_cons_zero, List.getElem?_cons_succ, List.set_cons_zero, List.set_cons_succ, List.replicate_succ, List.replicate_zero, List.filterMap_cons, List.filterMap_nil, Nat.zero_add, Nat.reduceAdd, if_true, if_false, Bool.false_eq_true]
  simp only [e1, e2, isa_go _ _ hn]
  refine ⟨LNle (by decide), ?_⟩
  rw [ev_add_lst]
  refine ⟨LNle (by simp), ?_⟩
  exact h
theorem own_go {a : Nat} {n : Str} (ha : EL[a]? = some n) (it : D) (h : q (.bl true)) : fn__law_is_own [.int a, .err n it] q x := by
  have hn : n ∈ errL := by
    have := List.mem_of_getElem? ha
    revert n
    intro n _ h
    exact (show ∀ n ∈ EL, n ∈ errL by decide +kernel) n h
  rw [fn__law_is_own_eq]; unfold g__law_is_own
  refine ⟨rfl, ?_⟩
  rw [show startD 3 [.int a, .err n it] = [some (.int a), some (.err n it), none] from rfl]
  obtain ⟨E, hE⟩ : ∃ E, E = entry false q x := ⟨_, rfl⟩
  have e1 : E.rt = q := by rw [hE]
  have e2 : E.x = x := by rw [hE]
  rw [← hE]
  clear hE
  have s1 : isErr n "StepError" = true := by unfold isErr; rw [decide_eq_true (rfl : ("StepError" : Str) = "StepError"), Bool.or_true]
  refine fSeq_split fun R hR => ?_
  dsimp only [fSeq, fIfS, fRet, fRetN, fDrop, fAsg, fName, fGseq, fGtup, fGcons, fGnil, fVar, fVarL, fDPut, fDGet2, sDGet, sKeys, fK, f1, f2, fNil, fCons, fTup, fLst, fCall, fCall0, fCallG, fCallK, fCallK0, fRaise, fTry, tryX, fTest, gNot, gAnd, gOr, hAnd, hOr, hNot, fIf, fPar2, fPar3, fSkip, fNever, fBrk, fCnt, fIt, fItT, fItL, fFor, forL, startD, entry, pick, D.isNon,
  DL.lt', DL.le', DL.gt', DL.ge', fSl, fPart, fNo, List.map_cons, List.map_nil, List.length_cons, List.length_nil, List.append_nil, List.nil_append, List.cons_append, List.getElem?_cons_zero, List.getElem?_cons_succ, List.set_cons_zero, List.set_cons_succ, List.replicate_succ, List.replicate_zero, List.filterMap_cons, List.filterMap_nil, Nat.zero_add, Nat.reduceAdd, if_true, if_false, Bool.false_eq_true]
  simp only [e1, e2, isa_go _ _ hn, s1, Bool.not_true, Bool.false_eq_true, if_false]
  rw [hR]; clear hR R
  refine fSeq_split fun R hR => ?_
  dsimp only [fSeq, fIfS, fRet, fRetN, fDrop, fAsg, fName, fGseq, fGtup, fGcons, fGnil, fVar, fVarL, fDPut, fDGet2, sDGet, sKeys, fK, f1, f2, fNil, fCons, fTup, fLst, fCall, fCall0, fCallG, fCallK, fCallK0, fRaise, fTry, tryX, fTest, gNot, gAnd, gOr, hAnd, hOr, hNot, fIf, fPar2, fPar3, fSkip, fNever, fBrk, fCnt, fIt, fItT, fItL, fFor, forL, startD, entry, pick, D.isNon,
  DL.lt', DL.le', DL.gt', DL.ge', fSl, fPart, fNo, List.map_cons, List.map_nil, List.length_cons, List.length_nil, List.append_nil, List.nil_append, List.cons_append, List.getElem?_cons_zero, List.getElem?_cons_succ, List.set_cons_zero, List.set_cons_succ, List.replicate_succ, List.replicate_zero, List.filterMap_cons, List.filterMap_nil, Nat.zero_add, Nat.reduceAdd, if_true, if_false, Bool.false_eq_true]
  simp only [e1, e2, isa_go _ _ hn, Bool.false_eq_true, if_false]
  rw [hR]; clear hR R
  dsimp only [fSeq, fIfS, fRet, fRetN, fDrop, fAsg, fName, fGseq, fGtup, fGcons, fGnil, fVar, fVarL, fDPut, fDGet2, sDGet, sKeys, fK, f1, f2, fNil, fCons, fTup, fLst, fCall, fCall0, fCallG, fCallK, fCallK0, fRaise, fTry, tryX, fTest, gNot, gAnd, gOr, hAnd, hOr, hNot, fIf, fPar2, fPar3, fSkip, fNever, fBrk, fCnt, fIt, fItT, fItL, fFor, forL, startD, entry, pick, D.isNon,
  DL.lt', DL.le', DL.gt', DL.ge', fSl, fPart, fNo, List.map_cons, List.map_nil, List.length_cons, List.length_nil, List.append_nil, List.nil_append, List.cons_append, List.getElem?_cons_zero, List.getElem?_cons_succ, List.set_cons_zero, List.set_cons_succ, List.replicate_succ, List.replicate_zero, List.filterMap_cons, List.filterMap_nil, Nat.zero_add, Nat.reduceAdd, if_true, if_false, Bool.false_eq_true]
  rw [e1, e2]
  refine kinds_go _ _ hn it ?_
  rw [kb_row a n ha]
  simp only [fLc, fRg1, fSeq, fIfS, fRet, fRetN, fDrop, fAsg, fName, fGseq, fGtup, fGcons, fGnil, fVar, fVarL, fDPut, fDGet2, sDGet, sKeys, fK, f1, f2, fNil, fCons, fTup, fLst, fCall, fCall0, fCallG, fCallK, fCallK0, fRaise, fTry, tryX, fTest, gNot, gAnd, gOr, hAnd, hOr, hNot, fIf, fPar2, fPar3, fSkip, fNever, fBrk, fCnt, fIt, fItT, fItL, fFor, forL, startD, entry, pick, D.isNon,
  DL.lt', DL.le', DL.gt', DL.ge', fSl, fPart, fNo, List.map_cons, List.map_nil, List.length_cons, List.length_nil, List.append_nil, List.nil_append, List.cons_append, List.getElem?_cons_zero, List.getElem?_cons_succ, List.set_cons_zero, List.set_cons_succ, List.replicate_succ, List.replicate_zero, List.filterMap_cons, List.filterMap_nil, Nat.zero_add, Nat.reduceAdd, if_true, if_false, Bool.false_eq_true, Nat.sub_self, Nat.reduceSub, List.replicate_zero, List.map_cons, List.map_nil, List.cons_append, List.nil_append, List.append_nil, List.getElem?_cons_zero, List.getElem?_cons_succ, List.set_cons_zero, List.set_cons_succ, List.length_cons, List.length_nil, Nat.zero_add, Nat.reduceAdd, Nat.reduceLT, Nat.reduceLeDiff, true_and, and_true, LN, eq_self]
  refine ⟨by decide, by decide, ?_⟩
  rw [show rangeD 0 (15 : Int).toNat = (List.range 15).map fun i => D.int (i : Nat) from rangeD_nat 15]
  refine lc_mapA (fun i => D.int (i : Nat)) (fun i => D.bl (decide (i = a))) _ [] (fun i hi q' hq => ?_) (LNle (by decide)) ?_
  · refine ⟨show (2 : Nat) < 3 by decide, ?_⟩
    simp only [wipeD, fSeq, fIfS, fRet, fRetN, fDrop, fAsg, fName, fGseq, fGtup, fGcons, fGnil, fVar, fVarL, fDPut, fDGet2, sDGet, sKeys, fK, f1, f2, fNil, fCons, fTup, fLst, fCall, fCall0, fCallG, fCallK, fCallK0, fRaise, fTry, tryX, fTest, gNot, gAnd, gOr, hAnd, hOr, hNot, fIf, fPar2, fPar3, fSkip, fNever, fBrk, fCnt, fIt, fItT, fItL, fFor, forL, startD, entry, pick, D.isNon,
  DL.lt', DL.le', DL.gt', DL.ge', fSl, fPart, fNo, List.map_cons, List.map_nil, List.length_cons, List.length_nil, List.append_nil, List.nil_append, List.cons_append, List.getElem?_cons_zero, List.getElem?_cons_succ, List.set_cons_zero, List.set_cons_succ, List.replicate_succ, List.replicate_zero, List.filterMap_cons, List.filterMap_nil, Nat.zero_add, Nat.reduceAdd, if_true, if_false, Bool.false_eq_true, Nat.sub_self, Nat.reduceSub, List.replicate_zero, List.map_cons, List.map_nil, List.cons_append, List.nil_append, List.append_nil, List.getElem?_cons_zero, List.getElem?_cons_succ, List.set_cons_zero, List.set_cons_succ, List.length_cons, List.length_nil, Nat.zero_add, Nat.reduceAdd, Nat.reduceLT, Nat.reduceLeDiff, true_and, and_true, LN, eq_self, ev_eq_int, Bool.false_xor]
    rw [show decide ((i : Int) = (a : Int)) = decide (i = a) by simp only [Int.ofNat_inj]]
    exact hq
  · rw [List.nil_append, show (List.range 15).map (fun i => D.bl (decide (i = a))) = (row a).map D.bl by unfold row; rw [List.map_map]; rfl]
    exact eq_bls _ _ _ _ h
end

end K00

set_option exponentiation.threshold 10000
namespace K00
open PySem PySem.Spec PyProof.Rows L2 DL DN
section
variable (q : D → Prop) (x : XD)
theorem try_no {mt : Str → Bool} {hv : Str → D → D} {r : List ((Str → Bool) × (Str → D → D))} {n : Str} {t : D} (h : mt n = false) (k : tryX q r n t) : tryX q ((mt, hv) :: r) n t := by
  show (if mt n = true then _ else tryX q r n t)
  rw [if_neg (by rw [h]; decide)]
  exact k
theorem try_yes {mt : Str → Bool} {hv : Str → D → D} {r : List ((Str → Bool) × (Str → D → D))} {n : Str} {t : D} (h : mt n = true) (k : q (hv n t)) : tryX q ((mt, hv) :: r) n t := by
  show (if mt n = true then q (hv n t) else tryX q r n t)
  rw [if_pos h]
  exact k
def HL : List ((Str → Bool) × (Str → D → D)) := [(fun n => isErr n "NoFormula", fun n t => (.tup [(.int 7), t])), (fun n => isErr n "BadNumber", fun n t => (.tup [(.int 0), t])), (fun n => isErr n "ZeroMiddle", fun n t => (.tup [(.int 11), t])), (fun n => isErr n "BadRule", fun n t => (.tup [(.int 3), t])), (fun n => isErr n "BadParameter", fun n t => (.tup [(.int 14), t])), (fun n => isErr n "OtherRoot", fun n t => (.tup [(.int 1), t])), (fun n => isErr n "BadGrowth", fun n t => (.tup [(.int 9), t])), (fun n => isErr n "BadCount", fun n t => (.tup [(.int 5), t])), (fun n => isErr n "BadFactor", fun n t => (.tup [(.int 13), t])), (fun n => isErr n "BadPolynomial", fun n t => (.tup [(.int 2), t])), (fun n => isErr n "BadShift", fun n t => (.tup [(.int 12), t])), (fun n => isErr n "BadPlace", fun n t => (.tup [(.int 4), t])), (fun n => isErr n "BadClass", fun n t => (.tup [(.int 8), t])), (fun n => isErr n "BadFormula", fun n t => (.tup [(.int 6), t])), (fun n => isErr n "BadLine", fun n t => (.tup [(.int 10), t]))]
theorem caught_0 (it : D) (h : q (.tup [.int (0 : Nat), it])) : tryX q HL "BadNumber" it := by
  unfold HL
  refine try_no q (show isErr "BadNumber" "NoFormula" = false by decide +kernel) ?_
  exact try_yes q (show isErr "BadNumber" "BadNumber" = true by decide +kernel) h
theorem caught_1 (it : D) (h : q (.tup [.int (1 : Nat), it])) : tryX q HL "OtherRoot" it := by
  unfold HL
  refine try_no q (show isErr "OtherRoot" "NoFormula" = false by decide +kernel) ?_
  refine try_no q (show isErr "OtherRoot" "BadNumber" = false by decide +kernel) ?_
  refine try_no q (show isErr "OtherRoot" "ZeroMiddle" = false by decide +kernel) ?_
  refine try_no q (show isErr "OtherRoot" "BadRule" = false by decide +kernel) ?_
  refine try_no q (show isErr "OtherRoot" "BadParameter" = false by decide +kernel) ?_
  exact try_yes q (show isErr "OtherRoot" "OtherRoot" = true by decide +kernel) h
theorem caught_2 (it : D) (h : q (.tup [.int (2 : Nat), it])) : tryX q HL "BadPolynomial" it := by
  unfold HL
  refine try_no q (show isErr "BadPolynomial" "NoFormula" = false by decide +kernel) ?_
  refine try_no q (show isErr "BadPolynomial" "BadNumber" = false by decide +kernel) ?_
  refine try_no q (show isErr "BadPolynomial" "ZeroMiddle" = false by decide +kernel) ?_
  refine try_no q (show isErr "BadPolynomial" "BadRule" = false by decide +kernel) ?_
  refine try_no q (show isErr "BadPolynomial" "BadParameter" = false by decide +kernel) ?_
  refine try_no q (show isErr "BadPolynomial" "OtherRoot" = false by decide +kernel) ?_
  refine try_no q (show isErr "BadPolynomial" "BadGrowth" = false by decide +kernel) ?_
  refine try_no q (show isErr "BadPolynomial" "BadCount" = false by decide +kernel) ?_
  refine try_no q (show isErr "BadPolynomial" "BadFactor" = false by decide +kernel) ?_
  exact try_yes q (show isErr "BadPolynomial" "BadPolynomial" = true by decide +kernel) h
theorem caught_3 (it : D) (h : q (.tup [.int (3 : Nat), it])) : tryX q HL "BadRule" it := by
  unfold HL
  refine try_no q (show isErr "BadRule" "NoFormula" = false by decide +kernel) ?_
  refine try_no q (show isErr "BadRule" "BadNumber" = false by decide +kernel) ?_
  refine try_no q (show isErr "BadRule" "ZeroMiddle" = false by decide +kernel) ?_
  exact try_yes q (show isErr "BadRule" "BadRule" = true by decide +kernel) h
theorem caught_4 (it : D) (h : q (.tup [.int (4 : Nat), it])) : tryX q HL "BadPlace" it := by
  unfold HL
  refine try_no q (show isErr "BadPlace" "NoFormula" = false by decide +kernel) ?_
  refine try_no q (show isErr "BadPlace" "BadNumber" = false by decide +kernel) ?_
  refine try_no q (show isErr "BadPlace" "ZeroMiddle" = false by decide +kernel) ?_
  refine try_no q (show isErr "BadPlace" "BadRule" = false by decide +kernel) ?_
  refine try_no q (show isErr "BadPlace" "BadParameter" = false by decide +kernel) ?_
  refine try_no q (show isErr "BadPlace" "OtherRoot" = false by decide +kernel) ?_
  refine try_no q (show isErr "BadPlace" "BadGrowth" = false by decide +kernel) ?_
  refine try_no q (show isErr "BadPlace" "BadCount" = false by decide +kernel) ?_
  refine try_no q (show isErr "BadPlace" "BadFactor" = false by decide +kernel) ?_
  refine try_no q (show isErr "BadPlace" "BadPolynomial" = false by decide +kernel) ?_
  refine try_no q (show isErr "BadPlace" "BadShift" = false by decide +kernel) ?_
  exact try_yes q (show isErr "BadPlace" "BadPlace" = true by decide +kernel) h
theorem caught_5 (it : D) (h : q (.tup [.int (5 : Nat), it])) : tryX q HL "BadCount" it := by
  unfold HL
  refine try_no q (show isErr "BadCount" "NoFormula" = false by decide +kernel) ?_
  refine try_no q (show isErr "BadCount" "BadNumber" = false by decide +kernel) ?_
  refine try_no q (show isErr "BadCount" "ZeroMiddle" = false by decide +kernel) ?_
  refine try_no q (show isErr "BadCount" "BadRule" = false by decide +kernel) ?_
  refine try_no q (show isErr "BadCount" "BadParameter" = false by decide +kernel) ?_
  refine try_no q (show isErr "BadCount" "OtherRoot" = false by decide +kernel) ?_
  refine try_no q (show isErr "BadCount" "BadGrowth" = false by decide +kernel) ?_
  exact try_yes q (show isErr "BadCount" "BadCount" = true by decide +kernel) h
theorem caught_6 (it : D) (h : q (.tup [.int (6 : Nat), it])) : tryX q HL "BadFormula" it := by
  unfold HL
  refine try_no q (show isErr "BadFormula" "NoFormula" = false by decide +kernel) ?_
  refine try_no q (show isErr "BadFormula" "BadNumber" = false by decide +kernel) ?_
  refine try_no q (show isErr "BadFormula" "ZeroMiddle" = false by decide +kernel) ?_
  refine try_no q (show isErr "BadFormula" "BadRule" = false by decide +kernel) ?_
  refine try_no q (show isErr "BadFormula" "BadParameter" = false by decide +kernel) ?_
  refine try_no q (show isErr "BadFormula" "OtherRoot" = false by decide +kernel) ?_
  refine try_no q (show isErr "BadFormula" "BadGrowth" = false by decide +kernel) ?_
  refine try_no q (show isErr "BadFormula" "BadCount" = false by decide +kernel) ?_
  refine try_no q (show isErr "BadFormula" "BadFactor" = false by decide +kernel) ?_
  refine try_no q (show isErr "BadFormula" "BadPolynomial" = false by decide +kernel) ?_
  refine try_no q (show isErr "BadFormula" "BadShift" = false by decide +kernel) ?_
  refine try_no q (show isErr "BadFormula" "BadPlace" = false by decide +kernel) ?_
  refine try_no q (show isErr "BadFormula" "BadClass" = false by decide +kernel) ?_
  exact try_yes q (show isErr "BadFormula" "BadFormula" = true by decide +kernel) h
theorem caught_7 (it : D) (h : q (.tup [.int (7 : Nat), it])) : tryX q HL "NoFormula" it := by
  unfold HL
  exact try_yes q (show isErr "NoFormula" "NoFormula" = true by decide +kernel) h
theorem caught_8 (it : D) (h : q (.tup [.int (8 : Nat), it])) : tryX q HL "BadClass" it := by
  unfold HL
  refine try_no q (show isErr "BadClass" "NoFormula" = false by decide +kernel) ?_
  refine try_no q (show isErr "BadClass" "BadNumber" = false by decide +kernel) ?_
  refine try_no q (show isErr "BadClass" "ZeroMiddle" = false by decide +kernel) ?_
  refine try_no q (show isErr "BadClass" "BadRule" = false by decide +kernel) ?_
  refine try_no q (show isErr "BadClass" "BadParameter" = false by decide +kernel) ?_
  refine try_no q (show isErr "BadClass" "OtherRoot" = false by decide +kernel) ?_
  refine try_no q (show isErr "BadClass" "BadGrowth" = false by decide +kernel) ?_
  refine try_no q (show isErr "BadClass" "BadCount" = false by decide +kernel) ?_
  refine try_no q (show isErr "BadClass" "BadFactor" = false by decide +kernel) ?_
  refine try_no q (show isErr "BadClass" "BadPolynomial" = false by decide +kernel) ?_
  refine try_no q (show isErr "BadClass" "BadShift" = false by decide +kernel) ?_
  refine try_no q (show isErr "BadClass" "BadPlace" = false by decide +kernel) ?_
  exact try_yes q (show isErr "BadClass" "BadClass" = true by decide +kernel) h
theorem caught_9 (it : D) (h : q (.tup [.int (9 : Nat), it])) : tryX q HL "BadGrowth" it := by
  unfold HL
  refine try_no q (show isErr "BadGrowth" "NoFormula" = false by decide +kernel) ?_
  refine try_no q (show isErr "BadGrowth" "BadNumber" = false by decide +kernel) ?_
  refine try_no q (show isErr "BadGrowth" "ZeroMiddle" = false by decide +kernel) ?_
  refine try_no q (show isErr "BadGrowth" "BadRule" = false by decide +kernel) ?_
  refine try_no q (show isErr "BadGrowth" "BadParameter" = false by decide +kernel) ?_
  refine try_no q (show isErr "BadGrowth" "OtherRoot" = false by decide +kernel) ?_
  exact try_yes q (show isErr "BadGrowth" "BadGrowth" = true by decide +kernel) h
theorem caught_10 (it : D) (h : q (.tup [.int (10 : Nat), it])) : tryX q HL "BadLine" it := by
  unfold HL
  refine try_no q (show isErr "BadLine" "NoFormula" = false by decide +kernel) ?_
  refine try_no q (show isErr "BadLine" "BadNumber" = false by decide +kernel) ?_
  refine try_no q (show isErr "BadLine" "ZeroMiddle" = false by decide +kernel) ?_
  refine try_no q (show isErr "BadLine" "BadRule" = false by decide +kernel) ?_
  refine try_no q (show isErr "BadLine" "BadParameter" = false by decide +kernel) ?_
  refine try_no q (show isErr "BadLine" "OtherRoot" = false by decide +kernel) ?_
  refine try_no q (show isErr "BadLine" "BadGrowth" = false by decide +kernel) ?_
  refine try_no q (show isErr "BadLine" "BadCount" = false by decide +kernel) ?_
  refine try_no q (show isErr "BadLine" "BadFactor" = false by decide +kernel) ?_
  refine try_no q (show isErr "BadLine" "BadPolynomial" = false by decide +kernel) ?_
  refine try_no q (show isErr "BadLine" "BadShift" = false by decide +kernel) ?_
  refine try_no q (show isErr "BadLine" "BadPlace" = false by decide +kernel) ?_
  refine try_no q (show isErr "BadLine" "BadClass" = false by decide +kernel) ?_
  refine try_no q (show isErr "BadLine" "BadFormula" = false by decide +kernel) ?_
  exact try_yes q (show isErr "BadLine" "BadLine" = true by decide +kernel) h
theorem caught_11 (it : D) (h : q (.tup [.int (11 : Nat), it])) : tryX q HL "ZeroMiddle" it := by
  unfold HL
  refine try_no q (show isErr "ZeroMiddle" "NoFormula" = false by decide +kernel) ?_
  refine try_no q (show isErr "ZeroMiddle" "BadNumber" = false by decide +kernel) ?_
  exact try_yes q (show isErr "ZeroMiddle" "ZeroMiddle" = true by decide +kernel) h
theorem caught_12 (it : D) (h : q (.tup [.int (12 : Nat), it])) : tryX q HL "BadShift" it := by
  unfold HL
  refine try_no q (show isErr "BadShift" "NoFormula" = false by decide +kernel) ?_
  refine try_no q (show isErr "BadShift" "BadNumber" = false by decide +kernel) ?_
  refine try_no q (show isErr "BadShift" "ZeroMiddle" = false by decide +kernel) ?_
  refine try_no q (show isErr "BadShift" "BadRule" = false by decide +kernel) ?_
  refine try_no q (show isErr "BadShift" "BadParameter" = false by decide +kernel) ?_
  refine try_no q (show isErr "BadShift" "OtherRoot" = false by decide +kernel) ?_
  refine try_no q (show isErr "BadShift" "BadGrowth" = false by decide +kernel) ?_
  refine try_no q (show isErr "BadShift" "BadCount" = false by decide +kernel) ?_
  refine try_no q (show isErr "BadShift" "BadFactor" = false by decide +kernel) ?_
  refine try_no q (show isErr "BadShift" "BadPolynomial" = false by decide +kernel) ?_
  exact try_yes q (show isErr "BadShift" "BadShift" = true by decide +kernel) h
theorem caught_13 (it : D) (h : q (.tup [.int (13 : Nat), it])) : tryX q HL "BadFactor" it := by
  unfold HL
  refine try_no q (show isErr "BadFactor" "NoFormula" = false by decide +kernel) ?_
  refine try_no q (show isErr "BadFactor" "BadNumber" = false by decide +kernel) ?_
  refine try_no q (show isErr "BadFactor" "ZeroMiddle" = false by decide +kernel) ?_
  refine try_no q (show isErr "BadFactor" "BadRule" = false by decide +kernel) ?_
  refine try_no q (show isErr "BadFactor" "BadParameter" = false by decide +kernel) ?_
  refine try_no q (show isErr "BadFactor" "OtherRoot" = false by decide +kernel) ?_
  refine try_no q (show isErr "BadFactor" "BadGrowth" = false by decide +kernel) ?_
  refine try_no q (show isErr "BadFactor" "BadCount" = false by decide +kernel) ?_
  exact try_yes q (show isErr "BadFactor" "BadFactor" = true by decide +kernel) h
theorem caught_14 (it : D) (h : q (.tup [.int (14 : Nat), it])) : tryX q HL "BadParameter" it := by
  unfold HL
  refine try_no q (show isErr "BadParameter" "NoFormula" = false by decide +kernel) ?_
  refine try_no q (show isErr "BadParameter" "BadNumber" = false by decide +kernel) ?_
  refine try_no q (show isErr "BadParameter" "ZeroMiddle" = false by decide +kernel) ?_
  refine try_no q (show isErr "BadParameter" "BadRule" = false by decide +kernel) ?_
  exact try_yes q (show isErr "BadParameter" "BadParameter" = true by decide +kernel) h
theorem raise_go : ∀ (a : Nat) {n : Str}, EL[a]? = some n → ∀ it : D, x n it → fn__law_raise [.int a, it] q x := by
  intro a n ha it h
  rw [fn__law_raise_eq]; unfold g__law_raise
  refine ⟨rfl, ?_⟩
  rw [show startD 2 [.int a, it] = [some (.int a), some it] from rfl]
  obtain ⟨E, hE⟩ : ∃ E, E = entry false q x := ⟨_, rfl⟩
  have e2 : E.x = x := by rw [hE]
  rw [← hE]
  clear hE
  refine fSeq_split fun R hR => ?_
  dsimp only [fRaiseK, fSeq, fIfS, fRet, fRetN, fDrop, fAsg, fName, fGseq, fGtup, fGcons, fGnil, fVar, fVarL, fDPut, fDGet2, sDGet, sKeys, fK, f1, f2, fNil, fCons, fTup, fLst, fCall, fCall0, fCallG, fCallK, fCallK0, fRaise, fTry, tryX, fTest, gNot, gAnd, gOr, hAnd, hOr, hNot, fIf, fPar2, fPar3, fSkip, fNever, fBrk, fCnt, fIt, fItT, fItL, fFor, forL, startD, entry, pick, D.isNon,
  DL.lt', DL.le', DL.gt', DL.ge', fSl, fPart, fNo, List.map_cons, List.map_nil, List.length_cons, List.length_nil, List.append_nil, List.nil_append, List.cons_append, List.getElem?_cons_zero, List.getElem?_cons_succ, List.set_cons_zero, List.set_cons_succ, List.replicate_succ, List.replicate_zero, List.filterMap_cons, List.filterMap_nil, Nat.zero_add, Nat.reduceAdd, if_true, if_false, Bool.false_eq_true]
  simp only [ev_eq_int, Bool.false_xor, decide_eq_true_eq]
  split
  · rename_i z
    have : a = 0 := by omega
    subst this
    cases ha
    rw [e2]
    exact h
  rw [hR]; clear hR R
  refine fSeq_split fun R hR => ?_
  dsimp only [fRaiseK, fSeq, fIfS, fRet, fRetN, fDrop, fAsg, fName, fGseq, fGtup, fGcons, fGnil, fVar, fVarL, fDPut, fDGet2, sDGet, sKeys, fK, f1, f2, fNil, fCons, fTup, fLst, fCall, fCall0, fCallG, fCallK, fCallK0, fRaise, fTry, tryX, fTest, gNot, gAnd, gOr, hAnd, hOr, hNot, fIf, fPar2, fPar3, fSkip, fNever, fBrk, fCnt, fIt, fItT, fItL, fFor, forL, startD, entry, pick, D.isNon,
  DL.lt', DL.le', DL.gt', DL.ge', fSl, fPart, fNo, List.map_cons, List.map_nil, List.length_cons, List.length_nil, List.append_nil, List.nil_append, List.cons_append, List.getElem?_cons_zero, List.getElem?_cons_succ, List.set_cons_zero, List.set_cons_succ, List.replicate_succ, List.replicate_zero, List.filterMap_cons, List.filterMap_nil, Nat.zero_add, Nat.reduceAdd, if_true, if_false, Bool.false_eq_true]
  simp only [ev_eq_int, Bool.false_xor, decide_eq_true_eq]
  split
  · rename_i z
    have : a = 1 := by omega
    subst this
    cases ha
    rw [e2]
    exact h
  rw [hR]; clear hR R
  refine fSeq_split fun R hR => ?_
  dsimp only [fRaiseK, fSeq, fIfS, fRet, fRetN, fDrop, fAsg, fName, fGseq, fGtup, fGcons, fGnil, fVar, fVarL, fDPut, fDGet2, sDGet, sKeys, fK, f1, f2, fNil, fCons, fTup, fLst, fCall, fCall0, fCallG, fCallK, fCallK0, fRaise, fTry, tryX, fTest, gNot, gAnd, gOr, hAnd, hOr, hNot, fIf, fPar2, fPar3, fSkip, fNever, fBrk, fCnt, fIt, fItT, fItL, fFor, forL, startD, entry, pick, D.isNon,
  DL.lt', DL.le', DL.gt', DL.ge', fSl, fPart, fNo, List.map_cons, List.map_nil, List.length_cons, List.length_nil, List.append_nil, List.nil_append, List.cons_append, List.getElem?_cons_zero, List.getElem?_cons_succ, List.set_cons_zero, List.set_cons_succ, List.replicate_succ, List.replicate_zero, List.filterMap_cons, List.filterMap_nil, Nat.zero_add, Nat.reduceAdd, if_true, if_false, Bool.false_eq_true]
  simp only [ev_eq_int, Bool.false_xor, decide_eq_true_eq]
  split
  · rename_i z
    have : a = 2 := by omega
    subst this
    cases ha
    rw [e2]
    exact h
  rw [hR]; clear hR R
  refine fSeq_split fun R hR => ?_
  dsimp only [fRaiseK, fSeq, fIfS, fRet, fRetN, fDrop, fAsg, fName, fGseq, fGtup, fGcons, fGnil, fVar, fVarL, fDPut, fDGet2, sDGet, sKeys, fK, f1, f2, fNil, fCons, fTup, fLst, fCall, fCall0, fCallG, fCallK, fCallK0, fRaise, fTry, tryX, fTest, gNot, gAnd, gOr, hAnd, hOr, hNot, fIf, fPar2, fPar3, fSkip, fNever, fBrk, fCnt, fIt, fItT, fItL, fFor, forL, startD, entry, pick, D.isNon,
  DL.lt', DL.le', DL.gt', DL.ge', fSl, fPart, fNo, List.map_cons, List.map_nil, List.length_cons, List.length_nil, List.append_nil, List.nil_append, List.cons_append, List.getElem?_cons_zero, List.getElem?_cons_succ, List.set_cons_zero, List.set_cons_succ, List.replicate_succ, List.replicate_zero, List.filterMap_cons, List.filterMap_nil, Nat.zero_add, Nat.reduceAdd, if_true, if_false, Bool.false_eq_true]
  simp only [ev_eq_int, Bool.false_xor, decide_eq_true_eq]
  split
  · rename_i z
    have : a = 3 := by omega
    subst this
    cases ha
    rw [e2]
    exact h
  rw [hR]; clear hR R
  refine fSeq_split fun R hR => ?_
  dsimp only [fRaiseK, fSeq, fIfS, fRet, fRetN, fDrop, fAsg, fName, fGseq, fGtup, fGcons, fGnil, fVar, fVarL, fDPut, fDGet2, sDGet, sKeys, fK, f1, f2, fNil, fCons, fTup, fLst, fCall, fCall0, fCallG, fCallK, fCallK0, fRaise, fTry, tryX, fTest, gNot, gAnd, gOr, hAnd, hOr, hNot, fIf, fPar2, fPar3, fSkip, fNever, fBrk, fCnt, fIt, fItT, fItL, fFor, forL, startD, entry, pick, D.isNon,
  DL.lt', DL.le', DL.gt', DL.ge', fSl, fPart, fNo, List.map_cons, List.map_nil, List.length_cons, List.length_nil, List.append_nil, List.nil_append, List.cons_append, List.getElem?_cons_zero, List.getElem?_cons_succ, List.set_cons_zero, List.set_cons_succ, List.replicate_succ, List.replicate_zero, List.filterMap_cons, List.filterMap_nil, Nat.zero_add, Nat.reduceAdd, if_true, if_false, Bool.false_eq_true]
  simp only [ev_eq_int, Bool.false_xor, decide_eq_true_eq]
  split
  · rename_i z
    have : a = 4 := by omega
    subst this
    cases ha
    rw [e2]
    exact h
  rw [hR]; clear hR R
  refine fSeq_split fun R hR => ?_
  dsimp only [fRaiseK, fSeq, fIfS, fRet, fRetN, fDrop, fAsg, fName, fGseq, fGtup, fGcons, fGnil, fVar, fVarL, fDPut, fDGet2, sDGet, sKeys, fK, f1, f2, fNil, fCons, fTup, fLst, fCall, fCall0, fCallG, fCallK, fCallK0, fRaise, fTry, tryX, fTest, gNot, gAnd, gOr, hAnd, hOr, hNot, fIf, fPar2, fPar3, fSkip, fNever, fBrk, fCnt, fIt, fItT, fItL, fFor, forL, startD, entry, pick, D.isNon,
  DL.lt', DL.le', DL.gt', DL.ge', fSl, fPart, fNo, List.map_cons, List.map_nil, List.length_cons, List.length_nil, List.append_nil, List.nil_append, List.cons_append, List.getElem?_cons_zero, List.getElem?_cons_succ, List.set_cons_zero, List.set_cons_succ, List.replicate_succ, List.replicate_zero, List.filterMap_cons, List.filterMap_nil, Nat.zero_add, Nat.reduceAdd, if_true, if_false, Bool.false_eq_true]
  simp only [ev_eq_int, Bool.false_xor, decide_eq_true_eq]
  split
  · rename_i z
    have : a = 5 := by omega
    subst this
    cases ha
    rw [e2]
    exact h
  rw [hR]; clear hR R
  refine fSeq_split fun R hR => ?_
  dsimp only [fRaiseK, fSeq, fIfS, fRet, fRetN, fDrop, fAsg, fName, fGseq, fGtup, fGcons, fGnil, fVar, fVarL, fDPut, fDGet2, sDGet, sKeys, fK, f1, f2, fNil, fCons, fTup, fLst, fCall, fCall0, fCallG, fCallK, fCallK0, fRaise, fTry, tryX, fTest, gNot, gAnd, gOr, hAnd, hOr, hNot, fIf, fPar2, fPar3, fSkip, fNever, fBrk, fCnt, fIt, fItT, fItL, fFor, forL, startD, entry, pick, D.isNon,
  DL.lt', DL.le', DL.gt', DL.ge', fSl, fPart, fNo, List.map_cons, List.map_nil, List.length_cons, List.length_nil, List.append_nil, List.nil_append, List.cons_append, List.getElem?_cons_zero, List.getElem?_cons_succ, List.set_cons_zero, List.set_cons_succ, List.replicate_succ, List.replicate_zero, List.filterMap_cons, List.filterMap_nil, Nat.zero_add, Nat.reduceAdd, if_true, if_false, Bool.false_eq_true]
  simp only [ev_eq_int, Bool.false_xor, decide_eq_true_eq]
  split
  · rename_i z
    have : a = 6 := by omega
    subst this
    cases ha
    rw [e2]
    exact h
  rw [hR]; clear hR R
  refine fSeq_split fun R hR => ?_
  dsimp only [fRaiseK, fSeq, fIfS, fRet, fRetN, fDrop, fAsg, fName, fGseq, fGtup, fGcons, fGnil, fVar, fVarL, fDPut, fDGet2, sDGet, sKeys, fK, f1, f2, fNil, fCons, fTup, fLst, fCall, fCall0, fCallG, fCallK, fCallK0, fRaise, fTry, tryX, fTest, gNot, gAnd, gOr, hAnd, hOr, hNot, fIf, fPar2, fPar3, fSkip, fNever, fBrk, fCnt, fIt, fItT, fItL, fFor, forL, startD, entry, pick, D.isNon,
  DL.lt', DL.le', DL.gt', DL.ge', fSl, fPart, fNo, List.map_cons, List.map_nil, List.length_cons, List.length_nil, List.append_nil, List.nil_append, List.cons_append, List.getElem?_cons_zero, List.getElem?_cons_succ, List.set_cons_zero, List.set_cons_succ, List.replicate_succ, List.replicate_zero, List.filterMap_cons, List.filterMap_nil, Nat.zero_add, Nat.reduceAdd, if_true, if_false, Bool.false_eq_true]
  simp only [ev_eq_int, Bool.false_xor, decide_eq_true_eq]
  split
  · rename_i z
    have : a = 7 := by omega
    subst this
    cases ha
    rw [e2]
    exact h
  rw [hR]; clear hR R
  refine fSeq_split fun R hR => ?_
  dsimp only [fRaiseK, fSeq, fIfS, fRet, fRetN, fDrop, fAsg, fName, fGseq, fGtup, fGcons, fGnil, fVar, fVarL, fDPut, fDGet2, sDGet, sKeys, fK, f1, f2, fNil, fCons, fTup, fLst, fCall, fCall0, fCallG, fCallK, fCallK0, fRaise, fTry, tryX, fTest, gNot, gAnd, gOr, hAnd, hOr, hNot, fIf, fPar2, fPar3, fSkip, fNever, fBrk, fCnt, fIt, fItT, fItL, fFor, forL, startD, entry, pick, D.isNon,
  DL.lt', DL.le', DL.gt', DL.ge', fSl, fPart, fNo, List.map_cons, List.map_nil, List.length_cons, List.length_nil, List.append_nil, List.nil_append, List.cons_append, List.getElem?_cons_zero, List.getElem?_cons_succ, List.set_cons_zero, List.set_cons_succ, List.replicate_succ, List.replicate_zero, List.filterMap_cons, List.filterMap_nil, Nat.zero_add, Nat.reduceAdd, if_true, if_false, Bool.false_eq_true]
  simp only [ev_eq_int, Bool.false_xor, decide_eq_true_eq]
  split
  · rename_i z
    have : a = 8 := by omega
    subst this
    cases ha
    rw [e2]
    exact h
  rw [hR]; clear hR R
  refine fSeq_split fun R hR => ?_
  dsimp only [fRaiseK, fSeq, fIfS, fRet, fRetN, fDrop, fAsg, fName, fGseq, fGtup, fGcons, fGnil, fVar, fVarL, fDPut, fDGet2, sDGet, sKeys, fK, f1, f2, fNil, fCons, fTup, fLst, fCall, fCall0, fCallG, fCallK, fCallK0, fRaise, fTry, tryX, fTest, gNot, gAnd, gOr, hAnd, hOr, hNot, fIf, fPar2, fPar3, fSkip, fNever, fBrk, fCnt, fIt, fItT, fItL, fFor, forL, startD, entry, pick, D.isNon,
  DL.lt', DL.le', DL.gt', DL.ge', fSl, fPart, fNo, List.map_cons, List.map_nil, List.length_cons, List.length_nil, List.append_nil, List.nil_append, List.cons_append, List.getElem?_cons_zero, List.getElem?_cons_succ, List.set_cons_zero, List.set_cons_succ, List.replicate_succ, List.replicate_zero, List.filterMap_cons, List.filterMap_nil, Nat.zero_add, Nat.reduceAdd, if_true, if_false, Bool.false_eq_true]
  simp only [ev_eq_int, Bool.false_xor, decide_eq_true_eq]
  split
  · rename_i z
    have : a = 9 := by omega
    subst this
    cases ha
    rw [e2]
    exact h
  rw [hR]; clear hR R
  refine fSeq_split fun R hR => ?_
  dsimp only [fRaiseK, fSeq, fIfS, fRet, fRetN, fDrop, fAsg, fName, fGseq, fGtup, fGcons, fGnil, fVar, fVarL, fDPut, fDGet2, sDGet, sKeys, fK, f1, f2, fNil, fCons, fTup, fLst, fCall, fCall0, fCallG, fCallK, fCallK0, fRaise, fTry, tryX, fTest, gNot, gAnd, gOr, hAnd, hOr, hNot, fIf, fPar2, fPar3, fSkip, fNever, fBrk, fCnt, fIt, fItT, fItL, fFor, forL, startD, entry, pick, D.isNon,
  DL.lt', DL.le', DL.gt', DL.ge', fSl, fPart, fNo, List.map_cons, List.map_nil, List.length_cons, List.length_nil, List.append_nil, List.nil_append, List.cons_append, List.getElem?_cons_zero, List.getElem?_cons_succ, List.set_cons_zero, List.set_cons_succ, List.replicate_succ, List.replicate_zero, List.filterMap_cons, List.filterMap_nil, Nat.zero_add, Nat.reduceAdd, if_true, if_false, Bool.false_eq_true]
  simp only [ev_eq_int, Bool.false_xor, decide_eq_true_eq]
  split
  · rename_i z
    have : a = 10 := by omega
    subst this
    cases ha
    rw [e2]
    exact h
  rw [hR]; clear hR R
  refine fSeq_split fun R hR => ?_
  dsimp only [fRaiseK, fSeq, fIfS, fRet, fRetN, fDrop, fAsg, fName, fGseq, fGtup, fGcons, fGnil, fVar, fVarL, fDPut, fDGet2, sDGet, sKeys, fK, f1, f2, fNil, fCons, fTup, fLst, fCall, fCall0, fCallG, fCallK, fCallK0, fRaise, fTry, tryX, fTest, gNot, gAnd, gOr, hAnd, hOr, hNot, fIf, fPar2, fPar3, fSkip, fNever, fBrk, fCnt, fIt, fItT, fItL, fFor, forL, startD, entry, pick, D.isNon,
  DL.lt', DL.le', DL.gt', DL.ge', fSl, fPart, fNo, List.map_cons, List.map_nil, List.length_cons, List.length_nil, List.append_nil, List.nil_append, List.cons_append, List.getElem?_cons_zero, List.getElem?_cons_succ, List.set_cons_zero, List.set_cons_succ, List.replicate_succ, List.replicate_zero, List.filterMap_cons, List.filterMap_nil, Nat.zero_add, Nat.reduceAdd, if_true, if_false, Bool.false_eq_true]
  simp only [ev_eq_int, Bool.false_xor, decide_eq_true_eq]
  split
  · rename_i z
    have : a = 11 := by omega
    subst this
    cases ha
    rw [e2]
    exact h
  rw [hR]; clear hR R
  refine fSeq_split fun R hR => ?_
  dsimp only [fRaiseK, fSeq, fIfS, fRet, fRetN, fDrop, fAsg, fName, fGseq, fGtup, fGcons, fGnil, fVar, fVarL, fDPut, fDGet2, sDGet, sKeys, fK, f1, f2, fNil, fCons, fTup, fLst, fCall, fCall0, fCallG, fCallK, fCallK0, fRaise, fTry, tryX, fTest, gNot, gAnd, gOr, hAnd, hOr, hNot, fIf, fPar2, fPar3, fSkip, fNever, fBrk, fCnt, fIt, fItT, fItL, fFor, forL, startD, entry, pick, D.isNon,
  DL.lt', DL.le', DL.gt', DL.ge', fSl, fPart, fNo, List.map_cons, List.map_nil, List.length_cons, List.length_nil, List.append_nil, List.nil_append, List.cons_append, List.getElem?_cons_zero, List.getElem?_cons_succ, List.set_cons_zero, List.set_cons_succ, List.replicate_succ, List.replicate_zero, List.filterMap_cons, List.filterMap_nil, Nat.zero_add, Nat.reduceAdd, if_true, if_false, Bool.false_eq_true]
  simp only [ev_eq_int, Bool.false_xor, decide_eq_true_eq]
  split
  · rename_i z
    have : a = 12 := by omega
    subst this
    cases ha
    rw [e2]
    exact h
  rw [hR]; clear hR R
  refine fSeq_split fun R hR => ?_
  dsimp only [fRaiseK, fSeq, fIfS, fRet, fRetN, fDrop, fAsg, fName, fGseq, fGtup, fGcons, fGnil, fVar, fVarL, fDPut, fDGet2, sDGet, sKeys, fK, f1, f2, fNil, fCons, fTup, fLst, fCall, fCall0, fCallG, fCallK, fCallK0, fRaise, fTry, tryX, fTest, gNot, gAnd, gOr, hAnd, hOr, hNot, fIf, fPar2, fPar3, fSkip, fNever, fBrk, fCnt, fIt, fItT, fItL, fFor, forL, startD, entry, pick, D.isNon,
  DL.lt', DL.le', DL.gt', DL.ge', fSl, fPart, fNo, List.map_cons, List.map_nil, List.length_cons, List.length_nil, List.append_nil, List.nil_append, List.cons_append, List.getElem?_cons_zero, List.getElem?_cons_succ, List.set_cons_zero, List.set_cons_succ, List.replicate_succ, List.replicate_zero, List.filterMap_cons, List.filterMap_nil, Nat.zero_add, Nat.reduceAdd, if_true, if_false, Bool.false_eq_true]
  simp only [ev_eq_int, Bool.false_xor, decide_eq_true_eq]
  split
  · rename_i z
    have : a = 13 := by omega
    subst this
    cases ha
    rw [e2]
    exact h
  rw [hR]; clear hR R
  dsimp only [fRaiseK, fSeq, fIfS, fRet, fRetN, fDrop, fAsg, fName, fGseq, fGtup, fGcons, fGnil, fVar, fVarL, fDPut, fDGet2, sDGet, sKeys, fK, f1, f2, fNil, fCons, fTup, fLst, fCall, fCall0, fCallG, fCallK, fCallK0, fRaise, fTry, tryX, fTest, gNot, gAnd, gOr, hAnd, hOr, hNot, fIf, fPar2, fPar3, fSkip, fNever, fBrk, fCnt, fIt, fItT, fItL, fFor, forL, startD, entry, pick, D.isNon,
  DL.lt', DL.le', DL.gt', DL.ge', fSl, fPart, fNo, List.map_cons, List.map_nil, List.length_cons, List.length_nil, List.append_nil, List.nil_append, List.cons_append, List.getElem?_cons_zero, List.getElem?_cons_succ, List.set_cons_zero, List.set_cons_succ, List.replicate_succ, List.replicate_zero, List.filterMap_cons, List.filterMap_nil, Nat.zero_add, Nat.reduceAdd, if_true, if_false, Bool.false_eq_true]
  have : a = 14 := by
    have h1 := (List.getElem?_eq_some_iff.mp ha).1
    have : EL.length = 15 := rfl
    omega
  subst this
  cases ha
  rw [e2]
  exact h
theorem el_err {a : Nat} {n : Str} (ha : EL[a]? = some n) : n ∈ errL := (show ∀ n ∈ EL, n ∈ errL by decide +kernel) n (List.mem_of_getElem? ha)
theorem caught_go {a : Nat} {n : Str} (ha : EL[a]? = some n) (it : D) (h : q (.tup [.int a, it])) : fn__law_caught [.int a, it] q x := by
  rw [fn__law_caught_eq]; unfold g__law_caught
  refine ⟨rfl, ?_⟩
  rw [show startD 3 [.int a, it] = [some (.int a), some it, none] from rfl]
  obtain ⟨E, hE⟩ : ∃ E, E = entry false q x := ⟨_, rfl⟩
  have e1 : E.rt = q := by rw [hE]
  rw [← hE]
  clear hE
  refine fSeq_split fun R hR => ?_
  clear hR
  show fTry _ _ _ _ _
  unfold fTry
  dsimp only [fDrop, fCall, fCons, fNil, fVar, List.getElem?_cons_zero, List.getElem?_cons_succ]
  refine raise_go _ _ a ha it ⟨el_err ha, ?_⟩
  rw [e1]
  match a, n, ha with
  | 0, _, rfl => exact caught_0 q it h
  | 1, _, rfl => exact caught_1 q it h
  | 2, _, rfl => exact caught_2 q it h
  | 3, _, rfl => exact caught_3 q it h
  | 4, _, rfl => exact caught_4 q it h
  | 5, _, rfl => exact caught_5 q it h
  | 6, _, rfl => exact caught_6 q it h
  | 7, _, rfl => exact caught_7 q it h
  | 8, _, rfl => exact caught_8 q it h
  | 9, _, rfl => exact caught_9 q it h
  | 10, _, rfl => exact caught_10 q it h
  | 11, _, rfl => exact caught_11 q it h
  | 12, _, rfl => exact caught_12 q it h
  | 13, _, rfl => exact caught_13 q it h
  | 14, _, rfl => exact caught_14 q it h
  | (a + 15), n, h => cases h
theorem base_go {a : Nat} {n : Str} (ha : EL[a]? = some n) (it : D) (h : q (.lst ((row a).map D.bl))) : fn__law_caught_as_base [.int a, it] q x := by
  rw [fn__law_caught_as_base_eq]; unfold g__law_caught_as_base
  refine ⟨rfl, ?_⟩
  rw [show startD 3 [.int a, it] = [some (.int a), some it, none] from rfl]
  obtain ⟨E, hE⟩ : ∃ E, E = entry false q x := ⟨_, rfl⟩
  have e1 : E.rt = q := by rw [hE]
  rw [← hE]
  clear hE
  refine fSeq_split fun R hR => ?_
  clear hR
  show fTry _ _ _ _ _
  unfold fTry
  dsimp only [fDrop, fCall, fCons, fNil, fVar, List.getElem?_cons_zero, List.getElem?_cons_succ]
  refine raise_go _ _ a ha it ⟨el_err ha, ?_⟩
  rw [e1]
  refine try_yes q (by show isErr n "StepError" = true; unfold isErr; rw [decide_eq_true (rfl : ("StepError" : Str) = "StepError"), Bool.or_true]) ?_
  show q (hv__law_kindsE n)
  rw [kb_hv, kb_row a n ha]
  exact h
end

end K00

set_option exponentiation.threshold 10000
namespace K00
open PySem PySem.Spec PyProof.Rows L2 DL DN
theorem errs_at {it d : D} {i : Nat} (h : (errs it)[i]? = some d) : ∃ n, EL[i]? = some n ∧ d = .err n it := by
  rw [show errs it = EL.map (fun n => D.err n it) from rfl, List.getElem?_map] at h
  obtain ⟨n, h1, rfl⟩ := Option.map_eq_some_iff.mp h
  exact ⟨n, h1, rfl⟩
theorem G_law : ∀ a d, g_law d (lawStart 13 a d) lawEnds := by
  intro a d
  unfold g_law
  rw [show lawStart 13 a d = [some (.ref a), some (.ref d), none, none, none, none, none, none, none, none, none, none, none] from rfl]
  obtain ⟨E, hE⟩ : ∃ E, E = lawEnds := ⟨_, rfl⟩
  have e1 : E.rt (.bl true) := by rw [hE]
  rw [← hE]
  clear hE
  refine fSeq_split fun R hR => ?_
  dsimp only [fSeq, fIfS, fRet, fRetN, fDrop, fAsg, fName, fGseq, fGtup, fGcons, fGnil, fVar, fVarL, fDPut, fDGet2, sDGet, sKeys, fK, f1, f2, fNil, fCons, fTup, fLst, fCall, fCall0, fCallG, fCallK, fCallK0, fRaise, fTry, tryX, fTest, gNot, gAnd, gOr, hAnd, hOr, hNot, fIf, fPar2, fPar3, fSkip, fNever, fBrk, fCnt, fIt, fItT, fItL, fFor, forL, startD, entry, pick, D.isNon,
  DL.lt', DL.le', DL.gt', DL.ge', fSl, fPart, fNo, List.map_cons, List.map_nil, List.length_cons, List.length_nil, List.append_nil, List.nil_append, List.cons_append, List.getElem?_cons_zero, List.getElem?_cons_succ, List.set_cons_zero, List.set_cons_succ, List.replicate_succ, List.replicate_zero, List.filterMap_cons, List.filterMap_nil, Nat.zero_add, Nat.reduceAdd, if_true, if_false, Bool.false_eq_true]
  refine ⟨rfl, any_near _ _ fun near hn => ⟨rfl, any_far _ _ fun far hf => ?_⟩⟩
  refine ⟨LNle (by decide), rfl, show (2 : Nat) < 13 by decide, show (3 : Nat) < 13 by decide, rfl, ?_⟩
  rw [hR]; clear hR R
  have hf : Vz 8 far := hf.mono (by decide)
  refine fSeq_split fun R hR => ?_
  dsimp only [fSeq, fIfS, fRet, fRetN, fDrop, fAsg, fName, fGseq, fGtup, fGcons, fGnil, fVar, fVarL, fDPut, fDGet2, sDGet, sKeys, fK, f1, f2, fNil, fCons, fTup, fLst, fCall, fCall0, fCallG, fCallK, fCallK0, fRaise, fTry, tryX, fTest, gNot, gAnd, gOr, hAnd, hOr, hNot, fIf, fPar2, fPar3, fSkip, fNever, fBrk, fCnt, fIt, fItT, fItL, fFor, forL, startD, entry, pick, D.isNon,
  DL.lt', DL.le', DL.gt', DL.ge', fSl, fPart, fNo, List.map_cons, List.map_nil, List.length_cons, List.length_nil, List.append_nil, List.nil_append, List.cons_append, List.getElem?_cons_zero, List.getElem?_cons_succ, List.set_cons_zero, List.set_cons_succ, List.replicate_succ, List.replicate_zero, List.filterMap_cons, List.filterMap_nil, Nat.zero_add, Nat.reduceAdd, if_true, if_false, Bool.false_eq_true]
  refine by_position_go _ _ _ (by_name_go _ _ _ ?_)
  simp only [Nat.sub_self, Nat.reduceSub, List.replicate_zero, List.map_cons, List.map_nil, List.cons_append, List.nil_append, List.append_nil, List.getElem?_cons_zero, List.getElem?_cons_succ, List.set_cons_zero, List.set_cons_succ, List.length_cons, List.length_nil, Nat.zero_add, Nat.reduceAdd, Nat.reduceLT, Nat.reduceLeDiff, true_and, and_true, LN, eq_self]
  rw [hR]; clear hR R
  refine fSeq_split fun R hR => ?_
  dsimp only [fLc, fSeq, fIfS, fRet, fRetN, fDrop, fAsg, fName, fGseq, fGtup, fGcons, fGnil, fVar, fVarL, fDPut, fDGet2, sDGet, sKeys, fK, f1, f2, fNil, fCons, fTup, fLst, fCall, fCall0, fCallG, fCallK, fCallK0, fRaise, fTry, tryX, fTest, gNot, gAnd, gOr, hAnd, hOr, hNot, fIf, fPar2, fPar3, fSkip, fNever, fBrk, fCnt, fIt, fItT, fItL, fFor, forL, startD, entry, pick, D.isNon,
  DL.lt', DL.le', DL.gt', DL.ge', fSl, fPart, fNo, List.map_cons, List.map_nil, List.length_cons, List.length_nil, List.append_nil, List.nil_append, List.cons_append, List.getElem?_cons_zero, List.getElem?_cons_succ, List.set_cons_zero, List.set_cons_succ, List.replicate_succ, List.replicate_zero, List.filterMap_cons, List.filterMap_nil, Nat.zero_add, Nat.reduceAdd, if_true, if_false, Bool.false_eq_true]
  refine carried_go _ _ _ (lc_none [] _ (fun c hc Q hQ => ?_) ⟨Nat.zero_le _, ev_eq_nil _ _ _ ?_⟩)
  · rw [List.eq_of_mem_replicate hc]
    refine ⟨show (6 : Nat) < 13 by decide, ?_⟩
    simp only [wipeD, fSeq, fIfS, fRet, fRetN, fDrop, fAsg, fName, fGseq, fGtup, fGcons, fGnil, fVar, fVarL, fDPut, fDGet2, sDGet, sKeys, fK, f1, f2, fNil, fCons, fTup, fLst, fCall, fCall0, fCallG, fCallK, fCallK0, fRaise, fTry, tryX, fTest, gNot, gAnd, gOr, hAnd, hOr, hNot, fIf, fPar2, fPar3, fSkip, fNever, fBrk, fCnt, fIt, fItT, fItL, fFor, forL, startD, entry, pick, D.isNon,
  DL.lt', DL.le', DL.gt', DL.ge', fSl, fPart, fNo, List.map_cons, List.map_nil, List.length_cons, List.length_nil, List.append_nil, List.nil_append, List.cons_append, List.getElem?_cons_zero, List.getElem?_cons_succ, List.set_cons_zero, List.set_cons_succ, List.replicate_succ, List.replicate_zero, List.filterMap_cons, List.filterMap_nil, Nat.zero_add, Nat.reduceAdd, if_true, if_false, Bool.false_eq_true, Nat.sub_self, Nat.reduceSub, List.replicate_zero, List.map_cons, List.map_nil, List.cons_append, List.nil_append, List.append_nil, List.getElem?_cons_zero, List.getElem?_cons_succ, List.set_cons_zero, List.set_cons_succ, List.length_cons, List.length_nil, Nat.zero_add, Nat.reduceAdd, Nat.reduceLT, Nat.reduceLeDiff, true_and, and_true, LN, eq_self]
    exact same_go _ _ hn (hQ _)
  simp only [Bool.true_xor, Bool.not_true, Bool.false_eq_true, if_false]
  rw [hR]; clear hR R
  refine fSeq_split fun R hR => ?_
  dsimp only [fLc, fSeq, fIfS, fRet, fRetN, fDrop, fAsg, fName, fGseq, fGtup, fGcons, fGnil, fVar, fVarL, fDPut, fDGet2, sDGet, sKeys, fK, f1, f2, fNil, fCons, fTup, fLst, fCall, fCall0, fCallG, fCallK, fCallK0, fRaise, fTry, tryX, fTest, gNot, gAnd, gOr, hAnd, hOr, hNot, fIf, fPar2, fPar3, fSkip, fNever, fBrk, fCnt, fIt, fItT, fItL, fFor, forL, startD, entry, pick, D.isNon,
  DL.lt', DL.le', DL.gt', DL.ge', fSl, fPart, fNo, List.map_cons, List.map_nil, List.length_cons, List.length_nil, List.append_nil, List.nil_append, List.cons_append, List.getElem?_cons_zero, List.getElem?_cons_succ, List.set_cons_zero, List.set_cons_succ, List.replicate_succ, List.replicate_zero, List.filterMap_cons, List.filterMap_nil, Nat.zero_add, Nat.reduceAdd, if_true, if_false, Bool.false_eq_true]
  refine carried_go _ _ _ (lc_none [] _ (fun c hc Q hQ => ?_) ⟨Nat.zero_le _, ev_eq_nil _ _ _ ?_⟩)
  · rw [List.eq_of_mem_replicate hc]
    refine ⟨show (6 : Nat) < 13 by decide, ?_⟩
    simp only [wipeD, fSeq, fIfS, fRet, fRetN, fDrop, fAsg, fName, fGseq, fGtup, fGcons, fGnil, fVar, fVarL, fDPut, fDGet2, sDGet, sKeys, fK, f1, f2, fNil, fCons, fTup, fLst, fCall, fCall0, fCallG, fCallK, fCallK0, fRaise, fTry, tryX, fTest, gNot, gAnd, gOr, hAnd, hOr, hNot, fIf, fPar2, fPar3, fSkip, fNever, fBrk, fCnt, fIt, fItT, fItL, fFor, forL, startD, entry, pick, D.isNon,
  DL.lt', DL.le', DL.gt', DL.ge', fSl, fPart, fNo, List.map_cons, List.map_nil, List.length_cons, List.length_nil, List.append_nil, List.nil_append, List.cons_append, List.getElem?_cons_zero, List.getElem?_cons_succ, List.set_cons_zero, List.set_cons_succ, List.replicate_succ, List.replicate_zero, List.filterMap_cons, List.filterMap_nil, Nat.zero_add, Nat.reduceAdd, if_true, if_false, Bool.false_eq_true, Nat.sub_self, Nat.reduceSub, List.replicate_zero, List.map_cons, List.map_nil, List.cons_append, List.nil_append, List.append_nil, List.getElem?_cons_zero, List.getElem?_cons_succ, List.set_cons_zero, List.set_cons_succ, List.length_cons, List.length_nil, Nat.zero_add, Nat.reduceAdd, Nat.reduceLT, Nat.reduceLeDiff, true_and, and_true, LN, eq_self]
    exact same_go _ _ hf (hQ _)
  simp only [Bool.true_xor, Bool.not_true, Bool.false_eq_true, if_false]
  rw [hR]; clear hR R
  refine fSeq_split fun R hR => ?_
  unfold fFor
  dsimp only [fIt, fTup, fCons, fNil, fVar, List.getElem?_cons_zero, List.getElem?_cons_succ]
  refine ⟨LNle (show (2 : Nat) ≤ 10000 by decide), ?_⟩
  refine forL_inv (fun r ρ => (∀ c ∈ r, ∃ it, c = .lst (errs it)) ∧ ∃ s7 s8 s9, ρ = [some (.ref a), some (.ref d), some near, some far, some (.lst (errs near)), some (.lst (errs far)), none, s7, s8, s9, none, none, none]) ?_ ?_ _ _ ⟨?_, none, none, none, rfl⟩
  · rintro ρ ⟨_, s7, s8, s9, rfl⟩
    show R _ _
    rw [hR]; clear hR R
    refine fSeq_split fun R hR => ?_
    dsimp only [fFor, fRg1, fK]
    refine ⟨by decide, by decide, ?_⟩
    rw [show rangeD 0 (15 : Int).toNat = (List.range 15).map fun i => D.int (i : Nat) from rangeD_nat 15]
    refine forL_inv (fun r ρ => (∀ c ∈ r, ∃ (i : Nat) (n : Str), EL[i]? = some n ∧ c = .int (i : Nat)) ∧ ∃ s10 s11, ρ = [some (.ref a), some (.ref d), some near, some far, some (.lst (errs near)), some (.lst (errs far)), none, s7, s8, s9, s10, s11, none]) ?_ ?_ _ _ ⟨?_, none, none, rfl⟩
    · rintro ρ ⟨_, s10, s11, rfl⟩
      show R _ _
      rw [hR]
      exact e1
    · rintro c r ρ ⟨hc, s10, s11, rfl⟩ nx hnx
      obtain ⟨i, n, hi, rfl⟩ := hc c (List.mem_cons_self ..)
      refine ⟨show (10 : Nat) < 13 by decide, ?_⟩
      refine fSeq_split fun R hR => ?_
      dsimp only [fSeq, fIfS, fRet, fRetN, fDrop, fAsg, fName, fGseq, fGtup, fGcons, fGnil, fVar, fVarL, fDPut, fDGet2, sDGet, sKeys, fK, f1, f2, fNil, fCons, fTup, fLst, fCall, fCall0, fCallG, fCallK, fCallK0, fRaise, fTry, tryX, fTest, gNot, gAnd, gOr, hAnd, hOr, hNot, fIf, fPar2, fPar3, fSkip, fNever, fBrk, fCnt, fIt, fItT, fItL, fFor, forL, startD, entry, pick, D.isNon,
  DL.lt', DL.le', DL.gt', DL.ge', fSl, fPart, fNo, List.map_cons, List.map_nil, List.length_cons, List.length_nil, List.append_nil, List.nil_append, List.cons_append, List.getElem?_cons_zero, List.getElem?_cons_succ, List.set_cons_zero, List.set_cons_succ, List.replicate_succ, List.replicate_zero, List.filterMap_cons, List.filterMap_nil, Nat.zero_add, Nat.reduceAdd, if_true, if_false, Bool.false_eq_true]
      refine caught_go _ _ hi near ⟨show (11 : Nat) < 13 by decide, ?_⟩
      rw [hR]; clear hR R
      refine fSeq_split fun R hR => ?_
      dsimp only [fSeq, fIfS, fRet, fRetN, fDrop, fAsg, fName, fGseq, fGtup, fGcons, fGnil, fVar, fVarL, fDPut, fDGet2, sDGet, sKeys, fK, f1, f2, fNil, fCons, fTup, fLst, fCall, fCall0, fCallG, fCallK, fCallK0, fRaise, fTry, tryX, fTest, gNot, gAnd, gOr, hAnd, hOr, hNot, fIf, fPar2, fPar3, fSkip, fNever, fBrk, fCnt, fIt, fItT, fItL, fFor, forL, startD, entry, pick, D.isNon,
  DL.lt', DL.le', DL.gt', DL.ge', fSl, fPart, fNo, List.map_cons, List.map_nil, List.length_cons, List.length_nil, List.append_nil, List.nil_append, List.cons_append, List.getElem?_cons_zero, List.getElem?_cons_succ, List.set_cons_zero, List.set_cons_succ, List.replicate_succ, List.replicate_zero, List.filterMap_cons, List.filterMap_nil, Nat.zero_add, Nat.reduceAdd, if_true, if_false, Bool.false_eq_true]
      rw [ev_ix0t, ev_ix1t, ev_eq_int, decide_eq_true rfl]
      dsimp only [Bool.true_xor, Bool.not_true]
      rw [if_neg (by decide)]
      refine same_go _ _ hn ?_
      simp only [Bool.not_true, Bool.false_eq_true, if_false]
      rw [hR]; clear hR R
      dsimp only [fSeq, fIfS, fRet, fRetN, fDrop, fAsg, fName, fGseq, fGtup, fGcons, fGnil, fVar, fVarL, fDPut, fDGet2, sDGet, sKeys, fK, f1, f2, fNil, fCons, fTup, fLst, fCall, fCall0, fCallG, fCallK, fCallK0, fRaise, fTry, tryX, fTest, gNot, gAnd, gOr, hAnd, hOr, hNot, fIf, fPar2, fPar3, fSkip, fNever, fBrk, fCnt, fIt, fItT, fItL, fFor, forL, startD, entry, pick, D.isNon,
  DL.lt', DL.le', DL.gt', DL.ge', fSl, fPart, fNo, List.map_cons, List.map_nil, List.length_cons, List.length_nil, List.append_nil, List.nil_append, List.cons_append, List.getElem?_cons_zero, List.getElem?_cons_succ, List.set_cons_zero, List.set_cons_succ, List.replicate_succ, List.replicate_zero, List.filterMap_cons, List.filterMap_nil, Nat.zero_add, Nat.reduceAdd, if_true, if_false, Bool.false_eq_true]
      refine base_go _ _ hi far ?_
      dsimp only [fLc, fRg1, fK]
      refine ⟨by decide, by decide, ?_⟩
      rw [show rangeD 0 (15 : Int).toNat = (List.range 15).map fun i => D.int (i : Nat) from rangeD_nat 15]
      refine lc_mapA (fun p => D.int (p : Nat)) (fun p => D.bl (decide (p = i))) _ [] (fun p _ q' hq => ?_) (LNle (by decide)) ?_
      · refine ⟨show (12 : Nat) < 13 by decide, ?_⟩
        simp only [wipeD, fSeq, fIfS, fRet, fRetN, fDrop, fAsg, fName, fGseq, fGtup, fGcons, fGnil, fVar, fVarL, fDPut, fDGet2, sDGet, sKeys, fK, f1, f2, fNil, fCons, fTup, fLst, fCall, fCall0, fCallG, fCallK, fCallK0, fRaise, fTry, tryX, fTest, gNot, gAnd, gOr, hAnd, hOr, hNot, fIf, fPar2, fPar3, fSkip, fNever, fBrk, fCnt, fIt, fItT, fItL, fFor, forL, startD, entry, pick, D.isNon,
  DL.lt', DL.le', DL.gt', DL.ge', fSl, fPart, fNo, List.map_cons, List.map_nil, List.length_cons, List.length_nil, List.append_nil, List.nil_append, List.cons_append, List.getElem?_cons_zero, List.getElem?_cons_succ, List.set_cons_zero, List.set_cons_succ, List.replicate_succ, List.replicate_zero, List.filterMap_cons, List.filterMap_nil, Nat.zero_add, Nat.reduceAdd, if_true, if_false, Bool.false_eq_true, Nat.sub_self, Nat.reduceSub, List.replicate_zero, List.map_cons, List.map_nil, List.cons_append, List.nil_append, List.append_nil, List.getElem?_cons_zero, List.getElem?_cons_succ, List.set_cons_zero, List.set_cons_succ, List.length_cons, List.length_nil, Nat.zero_add, Nat.reduceAdd, Nat.reduceLT, Nat.reduceLeDiff, true_and, and_true, LN, eq_self, ev_eq_int, Bool.false_xor]
        rw [show decide ((p : Int) = (i : Int)) = decide (p = i) by simp only [Int.ofNat_inj]]
        exact hq
      · rw [List.nil_append, show (List.range 15).map (fun p => D.bl (decide (p = i))) = (row i).map D.bl by unfold row; rw [List.map_map]; rfl]
        refine eq_bls _ _ _ _ ?_
        simp only [Bool.true_xor, Bool.not_true, Bool.false_eq_true, if_false]
        exact hnx _ ⟨fun c h => hc c (List.mem_cons_of_mem _ h), _, _, rfl⟩
    · intro c hc
      obtain ⟨i, hi, rfl⟩ := List.mem_map.mp hc
      have hi := List.mem_range.mp hi
      exact ⟨i, _, List.getElem?_eq_getElem (show i < EL.length from hi), rfl⟩
  · rintro c r ρ ⟨hc, s7, s8, s9, rfl⟩ nx hnx
    obtain ⟨it, rfl⟩ := hc c (List.mem_cons_self ..)
    refine ⟨show (7 : Nat) < 13 by decide, ?_⟩
    dsimp only [fFor, fEnL, fVar, List.set_cons_zero, List.set_cons_succ, List.getElem?_cons_zero, List.getElem?_cons_succ]
    refine forL_inv (fun r ρ => (∀ c ∈ r, c ∈ enumD (errs it)) ∧ ∃ s8 s9, ρ = [some (.ref a), some (.ref d), some near, some far, some (.lst (errs near)), some (.lst (errs far)), none, some (.lst (errs it)), s8, s9, none, none, none]) ?_ ?_ _ _ ⟨fun c hc => hc, s8, s9, rfl⟩
    · rintro ρ ⟨_, s8, s9, rfl⟩
      exact hnx _ ⟨fun c h => hc c (List.mem_cons_of_mem _ h), _, _, _, rfl⟩
    · rintro c r ρ ⟨hc, s8, s9, rfl⟩ nx hnx
      obtain ⟨i, d', e, rfl⟩ := enumD_mem (hc c (List.mem_cons_self ..))
      obtain ⟨n, hn', rfl⟩ := errs_at e
      dsimp only [fSeq, fIfS, fRet, fRetN, fDrop, fAsg, fName, fGseq, fGtup, fGcons, fGnil, fVar, fVarL, fDPut, fDGet2, sDGet, sKeys, fK, f1, f2, fNil, fCons, fTup, fLst, fCall, fCall0, fCallG, fCallK, fCallK0, fRaise, fTry, tryX, fTest, gNot, gAnd, gOr, hAnd, hOr, hNot, fIf, fPar2, fPar3, fSkip, fNever, fBrk, fCnt, fIt, fItT, fItL, fFor, forL, startD, entry, pick, D.isNon,
  DL.lt', DL.le', DL.gt', DL.ge', fSl, fPart, fNo, List.map_cons, List.map_nil, List.length_cons, List.length_nil, List.append_nil, List.nil_append, List.cons_append, List.getElem?_cons_zero, List.getElem?_cons_succ, List.set_cons_zero, List.set_cons_succ, List.replicate_succ, List.replicate_zero, List.filterMap_cons, List.filterMap_nil, Nat.zero_add, Nat.reduceAdd, if_true, if_false, Bool.false_eq_true]
      refine ⟨rfl, show (8 : Nat) < 13 by decide, show (9 : Nat) < 13 by decide, rfl, ?_⟩
      refine own_go _ _ hn' it ?_
      simp only [Bool.not_true, Bool.false_eq_true, if_false]
      exact hnx _ ⟨fun c h => hc c (List.mem_cons_of_mem _ h), _, _, rfl⟩
  · intro c hc
    rcases List.mem_cons.mp hc with rfl | hc
    · exact ⟨_, rfl⟩
    · rcases List.mem_cons.mp hc with rfl | hc
      · exact ⟨_, rfl⟩
      · cases hc

end K00

namespace K00
open PySem PySem.Spec PyProof.Rows L2 DL
def d__law_deck : He.DefD := ⟨("_law_deck", none), "_law_deck", "_law_deck", defArgs (top 18), defBody (top 18), defScope (top 18), [], []⟩
def d__law_draw : He.DefD := ⟨("_law_draw", none), "_law_draw", "_law_draw", defArgs (top 19), defBody (top 19), defScope (top 19), [], []⟩
def d__law_pick : He.DefD := ⟨("_law_pick", none), "_law_pick", "_law_pick", defArgs (top 20), defBody (top 20), defScope (top 20), [], []⟩
def d__law_any : He.DefD := ⟨("_law_any", none), "_law_any", "_law_any", defArgs (top 21), defBody (top 21), defScope (top 21), [], []⟩
def d__law_is_same : He.DefD := ⟨("_law_is_same", none), "_law_is_same", "_law_is_same", defArgs (top 22), defBody (top 22), defScope (top 22), [], []⟩
def d__law_by_position : He.DefD := ⟨("_law_by_position", none), "_law_by_position", "_law_by_position", defArgs (top 23), defBody (top 23), defScope (top 23), [], []⟩
def d__law_by_name : He.DefD := ⟨("_law_by_name", none), "_law_by_name", "_law_by_name", defArgs (top 24), defBody (top 24), defScope (top 24), [], []⟩
def d__law_carried : He.DefD := ⟨("_law_carried", none), "_law_carried", "_law_carried", defArgs (top 25), defBody (top 25), defScope (top 25), [], []⟩
def d__law_kinds : He.DefD := ⟨("_law_kinds", none), "_law_kinds", "_law_kinds", defArgs (top 26), defBody (top 26), defScope (top 26), [], []⟩
def d__law_is_own : He.DefD := ⟨("_law_is_own", none), "_law_is_own", "_law_is_own", defArgs (top 27), defBody (top 27), defScope (top 27), [], []⟩
def d__law_raise : He.DefD := ⟨("_law_raise", none), "_law_raise", "_law_raise", defArgs (top 28), defBody (top 28), defScope (top 28), [], []⟩
def d__law_caught : He.DefD := ⟨("_law_caught", none), "_law_caught", "_law_caught", defArgs (top 29), defBody (top 29), defScope (top 29), [], []⟩
def d__law_caught_as_base : He.DefD := ⟨("_law_caught_as_base", none), "_law_caught_as_base", "_law_caught_as_base", defArgs (top 30), defBody (top 30), defScope (top 30), [], []⟩
def d_law : He.DefD := ⟨("law", none), "law", "law", defArgs (top 31), defBody (top 31), defScope (top 31), [], []⟩
def di_BadParameter : He.DefD := ⟨("BadParameter", some "__init__"), "__init__", "BadParameter.__init__", defArgs (metOf (top 16)), defBody (metOf (top 16)), defScope (metOf (top 16)), [], []⟩
def di_BadNumber : He.DefD := ⟨("BadNumber", some "__init__"), "__init__", "BadNumber.__init__", defArgs (metOf (top 2)), defBody (metOf (top 2)), defScope (metOf (top 2)), [], []⟩
def di_OtherRoot : He.DefD := ⟨("OtherRoot", some "__init__"), "__init__", "OtherRoot.__init__", defArgs (metOf (top 3)), defBody (metOf (top 3)), defScope (metOf (top 3)), [], []⟩
def di_BadPolynomial : He.DefD := ⟨("BadPolynomial", some "__init__"), "__init__", "BadPolynomial.__init__", defArgs (metOf (top 4)), defBody (metOf (top 4)), defScope (metOf (top 4)), [], []⟩
def di_BadRule : He.DefD := ⟨("BadRule", some "__init__"), "__init__", "BadRule.__init__", defArgs (metOf (top 5)), defBody (metOf (top 5)), defScope (metOf (top 5)), [], []⟩
def di_BadPlace : He.DefD := ⟨("BadPlace", some "__init__"), "__init__", "BadPlace.__init__", defArgs (metOf (top 6)), defBody (metOf (top 6)), defScope (metOf (top 6)), [], []⟩
def di_BadCount : He.DefD := ⟨("BadCount", some "__init__"), "__init__", "BadCount.__init__", defArgs (metOf (top 7)), defBody (metOf (top 7)), defScope (metOf (top 7)), [], []⟩
def di_BadFormula : He.DefD := ⟨("BadFormula", some "__init__"), "__init__", "BadFormula.__init__", defArgs (metOf (top 8)), defBody (metOf (top 8)), defScope (metOf (top 8)), [], []⟩
def di_NoFormula : He.DefD := ⟨("NoFormula", some "__init__"), "__init__", "NoFormula.__init__", defArgs (metOf (top 9)), defBody (metOf (top 9)), defScope (metOf (top 9)), [], []⟩
def di_BadClass : He.DefD := ⟨("BadClass", some "__init__"), "__init__", "BadClass.__init__", defArgs (metOf (top 10)), defBody (metOf (top 10)), defScope (metOf (top 10)), [], []⟩
def di_BadGrowth : He.DefD := ⟨("BadGrowth", some "__init__"), "__init__", "BadGrowth.__init__", defArgs (metOf (top 11)), defBody (metOf (top 11)), defScope (metOf (top 11)), [], []⟩
def di_BadLine : He.DefD := ⟨("BadLine", some "__init__"), "__init__", "BadLine.__init__", defArgs (metOf (top 12)), defBody (metOf (top 12)), defScope (metOf (top 12)), [], []⟩
def di_ZeroMiddle : He.DefD := ⟨("ZeroMiddle", some "__init__"), "__init__", "ZeroMiddle.__init__", defArgs (metOf (top 13)), defBody (metOf (top 13)), defScope (metOf (top 13)), [], []⟩
def di_BadShift : He.DefD := ⟨("BadShift", some "__init__"), "__init__", "BadShift.__init__", defArgs (metOf (top 14)), defBody (metOf (top 14)), defScope (metOf (top 14)), [], []⟩
def di_BadFactor : He.DefD := ⟨("BadFactor", some "__init__"), "__init__", "BadFactor.__init__", defArgs (metOf (top 15)), defBody (metOf (top 15)), defScope (metOf (top 15)), [], []⟩
def fnL : List He.DefD := [d__law_deck, d__law_draw, d__law_pick, d__law_any, d__law_is_same, d__law_by_position, d__law_by_name, d__law_carried, d__law_kinds, d__law_is_own, d__law_raise, d__law_caught, d__law_caught_as_base, d_law, di_BadParameter, di_BadNumber, di_OtherRoot, di_BadPolynomial, di_BadRule, di_BadPlace, di_BadCount, di_BadFormula, di_NoFormula, di_BadClass, di_BadGrowth, di_BadLine, di_ZeroMiddle, di_BadShift, di_BadFactor]
def faL : List He.Fa := [.glo "_law_deck", .glo "_law_draw", .glo "_law_pick", .glo "_law_any", .glo "_law_is_same", .glo "_law_by_position", .glo "_law_by_name", .glo "_law_carried", .glo "_law_kinds", .glo "_law_is_own", .glo "_law_raise", .glo "_law_caught", .glo "_law_caught_as_base", .glo "law", .free "ArithmeticError", .free "AttributeError", .free "Exception", .free "LookupError", .free "RuntimeError", .free "TypeError", .free "ValueError", .free "dict", .free "enumerate", .free "int", .free "isinstance", .free "len", .free "list", .free "max", .free "range", .free "repr", .free "tuple", .glo "BadClass", .glo "BadCount", .glo "BadFactor", .glo "BadFormula", .glo "BadGrowth", .glo "BadLine", .glo "BadNumber", .glo "BadParameter", .glo "BadPlace", .glo "BadPolynomial", .glo "BadRule", .glo "BadShift", .glo "NoFormula", .glo "OtherRoot", .glo "StepError", .glo "ZeroMiddle", .meth "BadParameter" "__init__", .meth "BadNumber" "__init__", .meth "OtherRoot" "__init__", .meth "BadPolynomial" "__init__", .meth "BadRule" "__init__", .meth "BadPlace" "__init__", .meth "BadCount" "__init__", .meth "BadFormula" "__init__", .meth "NoFormula" "__init__", .meth "BadClass" "__init__", .meth "BadGrowth" "__init__", .meth "BadLine" "__init__", .meth "ZeroMiddle" "__init__", .meth "BadShift" "__init__", .meth "BadFactor" "__init__"]
def exL (K : PySem.W.Frag) : Bool := (errL.all (fun n => errB K (He.ga K n)) && (exmB K errL clsL && errL.all (fun n => decide (PySem.W.kitOne K (.ref (He.ga K n)) (.type "Exception") = some true) && decide (PySem.W.kitAny K (.ref (He.ga K n)) (List.map Value.type ["ValueError", "TypeError", "LookupError", "ArithmeticError", "RuntimeError", "AttributeError"]) = some false))))
abbrev R : PySem.W.OpenRow := PySem.W.OpenLaw.row PySem.Challenge.rw_twicestep_k00_errors_by_position_and_by
abbrev hk : PySem.W.Hook := hookC 4 faL fnL exL
def ob (s : PySem.W.SharedT) : AlC := obsC 4 faL fnL exL (HandSHeadRun.getT s)
theorem ob_eq (s : PySem.W.SharedT) : ob s = hk.obs s.abs := obsC_eq (HandSHeadRun.getT_eq s)
def names0 : List PySem.Str := ["__name__", "StepError", "BadNumber", "OtherRoot", "BadPolynomial", "BadRule", "BadPlace", "BadCount", "BadFormula", "NoFormula", "BadClass", "BadGrowth"]
def names1 : List PySem.Str := ["BadLine", "ZeroMiddle", "BadShift", "BadFactor", "BadParameter", "_law_deck", "_law_draw", "_law_pick", "_law_any", "_law_is_same", "_law_by_position", "_law_by_name"]
def names2 : List PySem.Str := ["_law_carried", "_law_kinds", "_law_is_own", "_law_raise", "_law_caught", "_law_caught_as_base"]
def names : List PySem.Str := names0 ++ names1 ++ names2
theorem run (w : World) : HandSHeadRun.RunEq R (PySem.W.view R.prog [31]) hk ob 12000 names w := by
  intro os
  kernel_rfl
theorem facts {P : Program} {w : World} {K : PySem.W.Frag} {h : Heap} {mg : Str → Option Value} {f : Addr} (X : K.In h) (G : h.Ns mainGlobals mg) (hfa : mg ("law" : Str) = some (.ref f)) (c : He.SaysD faL fnL K) (ce : exL K = true) :
    ∃ fd : FuncData, (∀ (s : Shared) (v : Value), BindsTo s fd ⟨[v], []⟩ [("script", v)]) ∧ ∀ base : Heap, K.In base → base.Ns mainGlobals mg → FnG P w K mg base CX0 10 f fd p_law (spLaw K) := by
  obtain ⟨fd__law_deck, F__law_deck⟩ := c.def_ 0 (d := d__law_deck) rfl
  have F__law_deck : FnP K "_law_deck" (top 18) [] (He.ga K "_law_deck") fd__law_deck := F__law_deck
  have m__law_deck : mg "_law_deck" = some (.ref (He.ga K "_law_deck")) := He.glo_ok X G (c.fact 0 (f := .glo "_law_deck") rfl)
  obtain ⟨fd__law_draw, F__law_draw⟩ := c.def_ 1 (d := d__law_draw) rfl
  have F__law_draw : FnP K "_law_draw" (top 19) [] (He.ga K "_law_draw") fd__law_draw := F__law_draw
  have m__law_draw : mg "_law_draw" = some (.ref (He.ga K "_law_draw")) := He.glo_ok X G (c.fact 1 (f := .glo "_law_draw") rfl)
  obtain ⟨fd__law_pick, F__law_pick⟩ := c.def_ 2 (d := d__law_pick) rfl
  have F__law_pick : FnP K "_law_pick" (top 20) [] (He.ga K "_law_pick") fd__law_pick := F__law_pick
  have m__law_pick : mg "_law_pick" = some (.ref (He.ga K "_law_pick")) := He.glo_ok X G (c.fact 2 (f := .glo "_law_pick") rfl)
  obtain ⟨fd__law_any, F__law_any⟩ := c.def_ 3 (d := d__law_any) rfl
  have F__law_any : FnP K "_law_any" (top 21) [] (He.ga K "_law_any") fd__law_any := F__law_any
  have m__law_any : mg "_law_any" = some (.ref (He.ga K "_law_any")) := He.glo_ok X G (c.fact 3 (f := .glo "_law_any") rfl)
  obtain ⟨fd__law_is_same, F__law_is_same⟩ := c.def_ 4 (d := d__law_is_same) rfl
  have F__law_is_same : FnP K "_law_is_same" (top 22) [] (He.ga K "_law_is_same") fd__law_is_same := F__law_is_same
  have m__law_is_same : mg "_law_is_same" = some (.ref (He.ga K "_law_is_same")) := He.glo_ok X G (c.fact 4 (f := .glo "_law_is_same") rfl)
  obtain ⟨fd__law_by_position, F__law_by_position⟩ := c.def_ 5 (d := d__law_by_position) rfl
  have F__law_by_position : FnP K "_law_by_position" (top 23) [] (He.ga K "_law_by_position") fd__law_by_position := F__law_by_position
  have m__law_by_position : mg "_law_by_position" = some (.ref (He.ga K "_law_by_position")) := He.glo_ok X G (c.fact 5 (f := .glo "_law_by_position") rfl)
  obtain ⟨fd__law_by_name, F__law_by_name⟩ := c.def_ 6 (d := d__law_by_name) rfl
  have F__law_by_name : FnP K "_law_by_name" (top 24) [] (He.ga K "_law_by_name") fd__law_by_name := F__law_by_name
  have m__law_by_name : mg "_law_by_name" = some (.ref (He.ga K "_law_by_name")) := He.glo_ok X G (c.fact 6 (f := .glo "_law_by_name") rfl)
  obtain ⟨fd__law_carried, F__law_carried⟩ := c.def_ 7 (d := d__law_carried) rfl
  have F__law_carried : FnP K "_law_carried" (top 25) [] (He.ga K "_law_carried") fd__law_carried := F__law_carried
  have m__law_carried : mg "_law_carried" = some (.ref (He.ga K "_law_carried")) := He.glo_ok X G (c.fact 7 (f := .glo "_law_carried") rfl)
  obtain ⟨fd__law_kinds, F__law_kinds⟩ := c.def_ 8 (d := d__law_kinds) rfl
  have F__law_kinds : FnP K "_law_kinds" (top 26) [] (He.ga K "_law_kinds") fd__law_kinds := F__law_kinds
  have m__law_kinds : mg "_law_kinds" = some (.ref (He.ga K "_law_kinds")) := He.glo_ok X G (c.fact 8 (f := .glo "_law_kinds") rfl)
  obtain ⟨fd__law_is_own, F__law_is_own⟩ := c.def_ 9 (d := d__law_is_own) rfl
  have F__law_is_own : FnP K "_law_is_own" (top 27) [] (He.ga K "_law_is_own") fd__law_is_own := F__law_is_own
  have m__law_is_own : mg "_law_is_own" = some (.ref (He.ga K "_law_is_own")) := He.glo_ok X G (c.fact 9 (f := .glo "_law_is_own") rfl)
  obtain ⟨fd__law_raise, F__law_raise⟩ := c.def_ 10 (d := d__law_raise) rfl
  have F__law_raise : FnP K "_law_raise" (top 28) [] (He.ga K "_law_raise") fd__law_raise := F__law_raise
  have m__law_raise : mg "_law_raise" = some (.ref (He.ga K "_law_raise")) := He.glo_ok X G (c.fact 10 (f := .glo "_law_raise") rfl)
  obtain ⟨fd__law_caught, F__law_caught⟩ := c.def_ 11 (d := d__law_caught) rfl
  have F__law_caught : FnP K "_law_caught" (top 29) [] (He.ga K "_law_caught") fd__law_caught := F__law_caught
  have m__law_caught : mg "_law_caught" = some (.ref (He.ga K "_law_caught")) := He.glo_ok X G (c.fact 11 (f := .glo "_law_caught") rfl)
  obtain ⟨fd__law_caught_as_base, F__law_caught_as_base⟩ := c.def_ 12 (d := d__law_caught_as_base) rfl
  have F__law_caught_as_base : FnP K "_law_caught_as_base" (top 30) [] (He.ga K "_law_caught_as_base") fd__law_caught_as_base := F__law_caught_as_base
  have m__law_caught_as_base : mg "_law_caught_as_base" = some (.ref (He.ga K "_law_caught_as_base")) := He.glo_ok X G (c.fact 12 (f := .glo "_law_caught_as_base") rfl)
  obtain ⟨fd_law, F_law⟩ := c.def_ 13 (d := d_law) rfl
  have F_law : FnP K "law" (top 31) [] (He.ga K "law") fd_law := F_law
  have m_law : mg "law" = some (.ref (He.ga K "law")) := He.glo_ok X G (c.fact 13 (f := .glo "law") rfl)
  have n_ArithmeticError : mg "ArithmeticError" = none := He.free_ok X G (c.fact 14 (f := .free "ArithmeticError") rfl)
  have n_AttributeError : mg "AttributeError" = none := He.free_ok X G (c.fact 15 (f := .free "AttributeError") rfl)
  have n_Exception : mg "Exception" = none := He.free_ok X G (c.fact 16 (f := .free "Exception") rfl)
  have n_LookupError : mg "LookupError" = none := He.free_ok X G (c.fact 17 (f := .free "LookupError") rfl)
  have n_RuntimeError : mg "RuntimeError" = none := He.free_ok X G (c.fact 18 (f := .free "RuntimeError") rfl)
  have n_TypeError : mg "TypeError" = none := He.free_ok X G (c.fact 19 (f := .free "TypeError") rfl)
  have n_ValueError : mg "ValueError" = none := He.free_ok X G (c.fact 20 (f := .free "ValueError") rfl)
  have n_dict : mg "dict" = none := He.free_ok X G (c.fact 21 (f := .free "dict") rfl)
  have n_enumerate : mg "enumerate" = none := He.free_ok X G (c.fact 22 (f := .free "enumerate") rfl)
  have n_int : mg "int" = none := He.free_ok X G (c.fact 23 (f := .free "int") rfl)
  have n_isinstance : mg "isinstance" = none := He.free_ok X G (c.fact 24 (f := .free "isinstance") rfl)
  have n_len : mg "len" = none := He.free_ok X G (c.fact 25 (f := .free "len") rfl)
  have n_list : mg "list" = none := He.free_ok X G (c.fact 26 (f := .free "list") rfl)
  have n_max : mg "max" = none := He.free_ok X G (c.fact 27 (f := .free "max") rfl)
  have n_range : mg "range" = none := He.free_ok X G (c.fact 28 (f := .free "range") rfl)
  have n_repr : mg "repr" = none := He.free_ok X G (c.fact 29 (f := .free "repr") rfl)
  have n_tuple : mg "tuple" = none := He.free_ok X G (c.fact 30 (f := .free "tuple") rfl)
  have ce0 : (errL.all (fun n => errB K (He.ga K n)) && (exmB K errL clsL && errL.all (fun n => decide (PySem.W.kitOne K (.ref (He.ga K n)) (.type "Exception") = some true) && decide (PySem.W.kitAny K (.ref (He.ga K n)) (List.map Value.type ["ValueError", "TypeError", "LookupError", "ArithmeticError", "RuntimeError", "AttributeError"]) = some false)))) = true := ce
  have gg_BadClass : mg "BadClass" = some (.ref (He.ga K "BadClass")) := He.glo_ok X G (c.fact 31 (f := .glo "BadClass") rfl)
  have gg_BadCount : mg "BadCount" = some (.ref (He.ga K "BadCount")) := He.glo_ok X G (c.fact 32 (f := .glo "BadCount") rfl)
  have gg_BadFactor : mg "BadFactor" = some (.ref (He.ga K "BadFactor")) := He.glo_ok X G (c.fact 33 (f := .glo "BadFactor") rfl)
  have gg_BadFormula : mg "BadFormula" = some (.ref (He.ga K "BadFormula")) := He.glo_ok X G (c.fact 34 (f := .glo "BadFormula") rfl)
  have gg_BadGrowth : mg "BadGrowth" = some (.ref (He.ga K "BadGrowth")) := He.glo_ok X G (c.fact 35 (f := .glo "BadGrowth") rfl)
  have gg_BadLine : mg "BadLine" = some (.ref (He.ga K "BadLine")) := He.glo_ok X G (c.fact 36 (f := .glo "BadLine") rfl)
  have gg_BadNumber : mg "BadNumber" = some (.ref (He.ga K "BadNumber")) := He.glo_ok X G (c.fact 37 (f := .glo "BadNumber") rfl)
  have gg_BadParameter : mg "BadParameter" = some (.ref (He.ga K "BadParameter")) := He.glo_ok X G (c.fact 38 (f := .glo "BadParameter") rfl)
  have gg_BadPlace : mg "BadPlace" = some (.ref (He.ga K "BadPlace")) := He.glo_ok X G (c.fact 39 (f := .glo "BadPlace") rfl)
  have gg_BadPolynomial : mg "BadPolynomial" = some (.ref (He.ga K "BadPolynomial")) := He.glo_ok X G (c.fact 40 (f := .glo "BadPolynomial") rfl)
  have gg_BadRule : mg "BadRule" = some (.ref (He.ga K "BadRule")) := He.glo_ok X G (c.fact 41 (f := .glo "BadRule") rfl)
  have gg_BadShift : mg "BadShift" = some (.ref (He.ga K "BadShift")) := He.glo_ok X G (c.fact 42 (f := .glo "BadShift") rfl)
  have gg_NoFormula : mg "NoFormula" = some (.ref (He.ga K "NoFormula")) := He.glo_ok X G (c.fact 43 (f := .glo "NoFormula") rfl)
  have gg_OtherRoot : mg "OtherRoot" = some (.ref (He.ga K "OtherRoot")) := He.glo_ok X G (c.fact 44 (f := .glo "OtherRoot") rfl)
  have gg_StepError : mg "StepError" = some (.ref (He.ga K "StepError")) := He.glo_ok X G (c.fact 45 (f := .glo "StepError") rfl)
  have gg_ZeroMiddle : mg "ZeroMiddle" = some (.ref (He.ga K "ZeroMiddle")) := He.glo_ok X G (c.fact 46 (f := .glo "ZeroMiddle") rfl)
  have me_BadParameter := meth_at (x := "BadParameter") (m := "__init__") (c.fact 47 (f := .meth "BadParameter" "__init__") rfl)
  have me_BadNumber := meth_at (x := "BadNumber") (m := "__init__") (c.fact 48 (f := .meth "BadNumber" "__init__") rfl)
  have me_OtherRoot := meth_at (x := "OtherRoot") (m := "__init__") (c.fact 49 (f := .meth "OtherRoot" "__init__") rfl)
  have me_BadPolynomial := meth_at (x := "BadPolynomial") (m := "__init__") (c.fact 50 (f := .meth "BadPolynomial" "__init__") rfl)
  have me_BadRule := meth_at (x := "BadRule") (m := "__init__") (c.fact 51 (f := .meth "BadRule" "__init__") rfl)
  have me_BadPlace := meth_at (x := "BadPlace") (m := "__init__") (c.fact 52 (f := .meth "BadPlace" "__init__") rfl)
  have me_BadCount := meth_at (x := "BadCount") (m := "__init__") (c.fact 53 (f := .meth "BadCount" "__init__") rfl)
  have me_BadFormula := meth_at (x := "BadFormula") (m := "__init__") (c.fact 54 (f := .meth "BadFormula" "__init__") rfl)
  have me_NoFormula := meth_at (x := "NoFormula") (m := "__init__") (c.fact 55 (f := .meth "NoFormula" "__init__") rfl)
  have me_BadClass := meth_at (x := "BadClass") (m := "__init__") (c.fact 56 (f := .meth "BadClass" "__init__") rfl)
  have me_BadGrowth := meth_at (x := "BadGrowth") (m := "__init__") (c.fact 57 (f := .meth "BadGrowth" "__init__") rfl)
  have me_BadLine := meth_at (x := "BadLine") (m := "__init__") (c.fact 58 (f := .meth "BadLine" "__init__") rfl)
  have me_ZeroMiddle := meth_at (x := "ZeroMiddle") (m := "__init__") (c.fact 59 (f := .meth "ZeroMiddle" "__init__") rfl)
  have me_BadShift := meth_at (x := "BadShift") (m := "__init__") (c.fact 60 (f := .meth "BadShift" "__init__") rfl)
  have me_BadFactor := meth_at (x := "BadFactor") (m := "__init__") (c.fact 61 (f := .meth "BadFactor" "__init__") rfl)
  obtain ⟨e_errs, ce1⟩ := bltM ce0
  obtain ⟨e_exm, ce2⟩ := bltM ce1
  have e_tys := ce2
  have eb : ∀ n ∈ errL, errB K (He.ga K n) = true := fun n hn => List.all_eq_true.mp e_errs n hn
  have T : Txt K mg := ⟨n_ArithmeticError, n_AttributeError, n_Exception, n_LookupError, n_RuntimeError, n_TypeError, n_ValueError, n_dict, n_enumerate, n_int, n_isinstance, n_len, n_list, n_max, n_range, n_repr, n_tuple, ((all_1 ⟨gg_BadParameter, (errB_ok (eb "BadParameter" (by decide +kernel))).1, (errB_ok (eb "BadParameter" (by decide +kernel))).2⟩ (all_1 ⟨gg_BadNumber, (errB_ok (eb "BadNumber" (by decide +kernel))).1, (errB_ok (eb "BadNumber" (by decide +kernel))).2⟩ (all_1 ⟨gg_OtherRoot, (errB_ok (eb "OtherRoot" (by decide +kernel))).1, (errB_ok (eb "OtherRoot" (by decide +kernel))).2⟩ (all_1 ⟨gg_BadPolynomial, (errB_ok (eb "BadPolynomial" (by decide +kernel))).1, (errB_ok (eb "BadPolynomial" (by decide +kernel))).2⟩ (all_1 ⟨gg_BadRule, (errB_ok (eb "BadRule" (by decide +kernel))).1, (errB_ok (eb "BadRule" (by decide +kernel))).2⟩ (all_1 ⟨gg_BadPlace, (errB_ok (eb "BadPlace" (by decide +kernel))).1, (errB_ok (eb "BadPlace" (by decide +kernel))).2⟩ (all_1 ⟨gg_BadCount, (errB_ok (eb "BadCount" (by decide +kernel))).1, (errB_ok (eb "BadCount" (by decide +kernel))).2⟩ (all_1 ⟨gg_BadFormula, (errB_ok (eb "BadFormula" (by decide +kernel))).1, (errB_ok (eb "BadFormula" (by decide +kernel))).2⟩ (all_1 ⟨gg_NoFormula, (errB_ok (eb "NoFormula" (by decide +kernel))).1, (errB_ok (eb "NoFormula" (by decide +kernel))).2⟩ (all_1 ⟨gg_BadClass, (errB_ok (eb "BadClass" (by decide +kernel))).1, (errB_ok (eb "BadClass" (by decide +kernel))).2⟩ (all_1 ⟨gg_BadGrowth, (errB_ok (eb "BadGrowth" (by decide +kernel))).1, (errB_ok (eb "BadGrowth" (by decide +kernel))).2⟩ (all_1 ⟨gg_BadLine, (errB_ok (eb "BadLine" (by decide +kernel))).1, (errB_ok (eb "BadLine" (by decide +kernel))).2⟩ (all_1 ⟨gg_ZeroMiddle, (errB_ok (eb "ZeroMiddle" (by decide +kernel))).1, (errB_ok (eb "ZeroMiddle" (by decide +kernel))).2⟩ (all_1 ⟨gg_BadShift, (errB_ok (eb "BadShift" (by decide +kernel))).1, (errB_ok (eb "BadShift" (by decide +kernel))).2⟩ (all_1 ⟨gg_BadFactor, (errB_ok (eb "BadFactor" (by decide +kernel))).1, (errB_ok (eb "BadFactor" (by decide +kernel))).2⟩ all_0)))))))))))))))), fun n hn c hc => exmB_ok e_exm n hn c hc, (all_1 gg_StepError (all_1 gg_BadNumber (all_1 gg_OtherRoot (all_1 gg_BadPolynomial (all_1 gg_BadRule (all_1 gg_BadPlace (all_1 gg_BadCount (all_1 gg_BadFormula (all_1 gg_NoFormula (all_1 gg_BadClass (all_1 gg_BadGrowth (all_1 gg_BadLine (all_1 gg_ZeroMiddle (all_1 gg_BadShift (all_1 gg_BadFactor (all_1 gg_BadParameter all_0)))))))))))))))), fun n hn => of_decide_eq_true (bltM (List.all_eq_true.mp e_tys n hn)).1, fun n hn => of_decide_eq_true (bltM (List.all_eq_true.mp e_tys n hn)).2⟩
  cases hfa.symm.trans m_law
  have b := FunD.bindsA (ps := p_law) F_law fun _ _ _ _ _ _ us hl => match us, hl with | [_], _ => rfl
  refine ⟨fd_law, fun s v => b s [v] rfl, fun base _ _ => ?_⟩
  obtain ⟨fdi_BadParameter, Fi_BadParameter⟩ := c.def_ 14 (d := di_BadParameter) rfl
  have Fi_BadParameter : FunD K "__init__" "BadParameter.__init__" (defArgs (metOf (top 16))) (defBody (metOf (top 16))) (defScope (metOf (top 16))) [] [] (He.ma K (He.ga K "BadParameter") "__init__") fdi_BadParameter := Fi_BadParameter
  have M_BadParameter : Mkr P w K mg base "BadParameter" := ⟨⟨_, _, ok_init Fi_BadParameter sci_BadParameter (fun _ _ _ _ _ _ => ⟨pv 0, pv 1⟩), me_BadParameter.1, me_BadParameter.2, Fi_BadParameter.bindsN fun _ _ _ _ _ _ us hl => match us, hl with | [_, _], _ => rfl, gg_BadParameter⟩, (T.err "BadParameter" (by decide +kernel)).c⟩
  have MK_BadParameter : MkrK P w K mg base "BadParameter" := ⟨⟨_, _, ok_init Fi_BadParameter sci_BadParameter (fun _ _ _ _ _ _ => ⟨pv 0, pv 1⟩), me_BadParameter.1, me_BadParameter.2, kb_of (ps := ["self", "thing"]) Fi_BadParameter (fun _ _ _ _ _ _ us ws h1 h2 => match us, ws, h1, h2 with | [_], [_], _, _ => rfl), gg_BadParameter⟩, (T.err "BadParameter" (by decide +kernel)).c⟩
  obtain ⟨fdi_BadNumber, Fi_BadNumber⟩ := c.def_ 15 (d := di_BadNumber) rfl
  have Fi_BadNumber : FunD K "__init__" "BadNumber.__init__" (defArgs (metOf (top 2))) (defBody (metOf (top 2))) (defScope (metOf (top 2))) [] [] (He.ma K (He.ga K "BadNumber") "__init__") fdi_BadNumber := Fi_BadNumber
  have M_BadNumber : Mkr P w K mg base "BadNumber" := ⟨⟨_, _, ok_init Fi_BadNumber sci_BadNumber (fun _ _ _ _ _ _ => ⟨pv 0, pv 1⟩), me_BadNumber.1, me_BadNumber.2, Fi_BadNumber.bindsN fun _ _ _ _ _ _ us hl => match us, hl with | [_, _], _ => rfl, gg_BadNumber⟩, (T.err "BadNumber" (by decide +kernel)).c⟩
  have MK_BadNumber : MkrK P w K mg base "BadNumber" := ⟨⟨_, _, ok_init Fi_BadNumber sci_BadNumber (fun _ _ _ _ _ _ => ⟨pv 0, pv 1⟩), me_BadNumber.1, me_BadNumber.2, kb_of (ps := ["self", "thing"]) Fi_BadNumber (fun _ _ _ _ _ _ us ws h1 h2 => match us, ws, h1, h2 with | [_], [_], _, _ => rfl), gg_BadNumber⟩, (T.err "BadNumber" (by decide +kernel)).c⟩
  obtain ⟨fdi_OtherRoot, Fi_OtherRoot⟩ := c.def_ 16 (d := di_OtherRoot) rfl
  have Fi_OtherRoot : FunD K "__init__" "OtherRoot.__init__" (defArgs (metOf (top 3))) (defBody (metOf (top 3))) (defScope (metOf (top 3))) [] [] (He.ma K (He.ga K "OtherRoot") "__init__") fdi_OtherRoot := Fi_OtherRoot
  have M_OtherRoot : Mkr P w K mg base "OtherRoot" := ⟨⟨_, _, ok_init Fi_OtherRoot sci_OtherRoot (fun _ _ _ _ _ _ => ⟨pv 0, pv 1⟩), me_OtherRoot.1, me_OtherRoot.2, Fi_OtherRoot.bindsN fun _ _ _ _ _ _ us hl => match us, hl with | [_, _], _ => rfl, gg_OtherRoot⟩, (T.err "OtherRoot" (by decide +kernel)).c⟩
  have MK_OtherRoot : MkrK P w K mg base "OtherRoot" := ⟨⟨_, _, ok_init Fi_OtherRoot sci_OtherRoot (fun _ _ _ _ _ _ => ⟨pv 0, pv 1⟩), me_OtherRoot.1, me_OtherRoot.2, kb_of (ps := ["self", "thing"]) Fi_OtherRoot (fun _ _ _ _ _ _ us ws h1 h2 => match us, ws, h1, h2 with | [_], [_], _, _ => rfl), gg_OtherRoot⟩, (T.err "OtherRoot" (by decide +kernel)).c⟩
  obtain ⟨fdi_BadPolynomial, Fi_BadPolynomial⟩ := c.def_ 17 (d := di_BadPolynomial) rfl
  have Fi_BadPolynomial : FunD K "__init__" "BadPolynomial.__init__" (defArgs (metOf (top 4))) (defBody (metOf (top 4))) (defScope (metOf (top 4))) [] [] (He.ma K (He.ga K "BadPolynomial") "__init__") fdi_BadPolynomial := Fi_BadPolynomial
  have M_BadPolynomial : Mkr P w K mg base "BadPolynomial" := ⟨⟨_, _, ok_init Fi_BadPolynomial sci_BadPolynomial (fun _ _ _ _ _ _ => ⟨pv 0, pv 1⟩), me_BadPolynomial.1, me_BadPolynomial.2, Fi_BadPolynomial.bindsN fun _ _ _ _ _ _ us hl => match us, hl with | [_, _], _ => rfl, gg_BadPolynomial⟩, (T.err "BadPolynomial" (by decide +kernel)).c⟩
  have MK_BadPolynomial : MkrK P w K mg base "BadPolynomial" := ⟨⟨_, _, ok_init Fi_BadPolynomial sci_BadPolynomial (fun _ _ _ _ _ _ => ⟨pv 0, pv 1⟩), me_BadPolynomial.1, me_BadPolynomial.2, kb_of (ps := ["self", "thing"]) Fi_BadPolynomial (fun _ _ _ _ _ _ us ws h1 h2 => match us, ws, h1, h2 with | [_], [_], _, _ => rfl), gg_BadPolynomial⟩, (T.err "BadPolynomial" (by decide +kernel)).c⟩
  obtain ⟨fdi_BadRule, Fi_BadRule⟩ := c.def_ 18 (d := di_BadRule) rfl
  have Fi_BadRule : FunD K "__init__" "BadRule.__init__" (defArgs (metOf (top 5))) (defBody (metOf (top 5))) (defScope (metOf (top 5))) [] [] (He.ma K (He.ga K "BadRule") "__init__") fdi_BadRule := Fi_BadRule
  have M_BadRule : Mkr P w K mg base "BadRule" := ⟨⟨_, _, ok_init Fi_BadRule sci_BadRule (fun _ _ _ _ _ _ => ⟨pv 0, pv 1⟩), me_BadRule.1, me_BadRule.2, Fi_BadRule.bindsN fun _ _ _ _ _ _ us hl => match us, hl with | [_, _], _ => rfl, gg_BadRule⟩, (T.err "BadRule" (by decide +kernel)).c⟩
  have MK_BadRule : MkrK P w K mg base "BadRule" := ⟨⟨_, _, ok_init Fi_BadRule sci_BadRule (fun _ _ _ _ _ _ => ⟨pv 0, pv 1⟩), me_BadRule.1, me_BadRule.2, kb_of (ps := ["self", "thing"]) Fi_BadRule (fun _ _ _ _ _ _ us ws h1 h2 => match us, ws, h1, h2 with | [_], [_], _, _ => rfl), gg_BadRule⟩, (T.err "BadRule" (by decide +kernel)).c⟩
  obtain ⟨fdi_BadPlace, Fi_BadPlace⟩ := c.def_ 19 (d := di_BadPlace) rfl
  have Fi_BadPlace : FunD K "__init__" "BadPlace.__init__" (defArgs (metOf (top 6))) (defBody (metOf (top 6))) (defScope (metOf (top 6))) [] [] (He.ma K (He.ga K "BadPlace") "__init__") fdi_BadPlace := Fi_BadPlace
  have M_BadPlace : Mkr P w K mg base "BadPlace" := ⟨⟨_, _, ok_init Fi_BadPlace sci_BadPlace (fun _ _ _ _ _ _ => ⟨pv 0, pv 1⟩), me_BadPlace.1, me_BadPlace.2, Fi_BadPlace.bindsN fun _ _ _ _ _ _ us hl => match us, hl with | [_, _], _ => rfl, gg_BadPlace⟩, (T.err "BadPlace" (by decide +kernel)).c⟩
  have MK_BadPlace : MkrK P w K mg base "BadPlace" := ⟨⟨_, _, ok_init Fi_BadPlace sci_BadPlace (fun _ _ _ _ _ _ => ⟨pv 0, pv 1⟩), me_BadPlace.1, me_BadPlace.2, kb_of (ps := ["self", "thing"]) Fi_BadPlace (fun _ _ _ _ _ _ us ws h1 h2 => match us, ws, h1, h2 with | [_], [_], _, _ => rfl), gg_BadPlace⟩, (T.err "BadPlace" (by decide +kernel)).c⟩
  obtain ⟨fdi_BadCount, Fi_BadCount⟩ := c.def_ 20 (d := di_BadCount) rfl
  have Fi_BadCount : FunD K "__init__" "BadCount.__init__" (defArgs (metOf (top 7))) (defBody (metOf (top 7))) (defScope (metOf (top 7))) [] [] (He.ma K (He.ga K "BadCount") "__init__") fdi_BadCount := Fi_BadCount
  have M_BadCount : Mkr P w K mg base "BadCount" := ⟨⟨_, _, ok_init Fi_BadCount sci_BadCount (fun _ _ _ _ _ _ => ⟨pv 0, pv 1⟩), me_BadCount.1, me_BadCount.2, Fi_BadCount.bindsN fun _ _ _ _ _ _ us hl => match us, hl with | [_, _], _ => rfl, gg_BadCount⟩, (T.err "BadCount" (by decide +kernel)).c⟩
  have MK_BadCount : MkrK P w K mg base "BadCount" := ⟨⟨_, _, ok_init Fi_BadCount sci_BadCount (fun _ _ _ _ _ _ => ⟨pv 0, pv 1⟩), me_BadCount.1, me_BadCount.2, kb_of (ps := ["self", "thing"]) Fi_BadCount (fun _ _ _ _ _ _ us ws h1 h2 => match us, ws, h1, h2 with | [_], [_], _, _ => rfl), gg_BadCount⟩, (T.err "BadCount" (by decide +kernel)).c⟩
  obtain ⟨fdi_BadFormula, Fi_BadFormula⟩ := c.def_ 21 (d := di_BadFormula) rfl
  have Fi_BadFormula : FunD K "__init__" "BadFormula.__init__" (defArgs (metOf (top 8))) (defBody (metOf (top 8))) (defScope (metOf (top 8))) [] [] (He.ma K (He.ga K "BadFormula") "__init__") fdi_BadFormula := Fi_BadFormula
  have M_BadFormula : Mkr P w K mg base "BadFormula" := ⟨⟨_, _, ok_init Fi_BadFormula sci_BadFormula (fun _ _ _ _ _ _ => ⟨pv 0, pv 1⟩), me_BadFormula.1, me_BadFormula.2, Fi_BadFormula.bindsN fun _ _ _ _ _ _ us hl => match us, hl with | [_, _], _ => rfl, gg_BadFormula⟩, (T.err "BadFormula" (by decide +kernel)).c⟩
  have MK_BadFormula : MkrK P w K mg base "BadFormula" := ⟨⟨_, _, ok_init Fi_BadFormula sci_BadFormula (fun _ _ _ _ _ _ => ⟨pv 0, pv 1⟩), me_BadFormula.1, me_BadFormula.2, kb_of (ps := ["self", "thing"]) Fi_BadFormula (fun _ _ _ _ _ _ us ws h1 h2 => match us, ws, h1, h2 with | [_], [_], _, _ => rfl), gg_BadFormula⟩, (T.err "BadFormula" (by decide +kernel)).c⟩
  obtain ⟨fdi_NoFormula, Fi_NoFormula⟩ := c.def_ 22 (d := di_NoFormula) rfl
  have Fi_NoFormula : FunD K "__init__" "NoFormula.__init__" (defArgs (metOf (top 9))) (defBody (metOf (top 9))) (defScope (metOf (top 9))) [] [] (He.ma K (He.ga K "NoFormula") "__init__") fdi_NoFormula := Fi_NoFormula
  have M_NoFormula : Mkr P w K mg base "NoFormula" := ⟨⟨_, _, ok_init Fi_NoFormula sci_NoFormula (fun _ _ _ _ _ _ => ⟨pv 0, pv 1⟩), me_NoFormula.1, me_NoFormula.2, Fi_NoFormula.bindsN fun _ _ _ _ _ _ us hl => match us, hl with | [_, _], _ => rfl, gg_NoFormula⟩, (T.err "NoFormula" (by decide +kernel)).c⟩
  have MK_NoFormula : MkrK P w K mg base "NoFormula" := ⟨⟨_, _, ok_init Fi_NoFormula sci_NoFormula (fun _ _ _ _ _ _ => ⟨pv 0, pv 1⟩), me_NoFormula.1, me_NoFormula.2, kb_of (ps := ["self", "thing"]) Fi_NoFormula (fun _ _ _ _ _ _ us ws h1 h2 => match us, ws, h1, h2 with | [_], [_], _, _ => rfl), gg_NoFormula⟩, (T.err "NoFormula" (by decide +kernel)).c⟩
  obtain ⟨fdi_BadClass, Fi_BadClass⟩ := c.def_ 23 (d := di_BadClass) rfl
  have Fi_BadClass : FunD K "__init__" "BadClass.__init__" (defArgs (metOf (top 10))) (defBody (metOf (top 10))) (defScope (metOf (top 10))) [] [] (He.ma K (He.ga K "BadClass") "__init__") fdi_BadClass := Fi_BadClass
  have M_BadClass : Mkr P w K mg base "BadClass" := ⟨⟨_, _, ok_init Fi_BadClass sci_BadClass (fun _ _ _ _ _ _ => ⟨pv 0, pv 1⟩), me_BadClass.1, me_BadClass.2, Fi_BadClass.bindsN fun _ _ _ _ _ _ us hl => match us, hl with | [_, _], _ => rfl, gg_BadClass⟩, (T.err "BadClass" (by decide +kernel)).c⟩
  have MK_BadClass : MkrK P w K mg base "BadClass" := ⟨⟨_, _, ok_init Fi_BadClass sci_BadClass (fun _ _ _ _ _ _ => ⟨pv 0, pv 1⟩), me_BadClass.1, me_BadClass.2, kb_of (ps := ["self", "thing"]) Fi_BadClass (fun _ _ _ _ _ _ us ws h1 h2 => match us, ws, h1, h2 with | [_], [_], _, _ => rfl), gg_BadClass⟩, (T.err "BadClass" (by decide +kernel)).c⟩
  obtain ⟨fdi_BadGrowth, Fi_BadGrowth⟩ := c.def_ 24 (d := di_BadGrowth) rfl
  have Fi_BadGrowth : FunD K "__init__" "BadGrowth.__init__" (defArgs (metOf (top 11))) (defBody (metOf (top 11))) (defScope (metOf (top 11))) [] [] (He.ma K (He.ga K "BadGrowth") "__init__") fdi_BadGrowth := Fi_BadGrowth
  have M_BadGrowth : Mkr P w K mg base "BadGrowth" := ⟨⟨_, _, ok_init Fi_BadGrowth sci_BadGrowth (fun _ _ _ _ _ _ => ⟨pv 0, pv 1⟩), me_BadGrowth.1, me_BadGrowth.2, Fi_BadGrowth.bindsN fun _ _ _ _ _ _ us hl => match us, hl with | [_, _], _ => rfl, gg_BadGrowth⟩, (T.err "BadGrowth" (by decide +kernel)).c⟩
  have MK_BadGrowth : MkrK P w K mg base "BadGrowth" := ⟨⟨_, _, ok_init Fi_BadGrowth sci_BadGrowth (fun _ _ _ _ _ _ => ⟨pv 0, pv 1⟩), me_BadGrowth.1, me_BadGrowth.2, kb_of (ps := ["self", "thing"]) Fi_BadGrowth (fun _ _ _ _ _ _ us ws h1 h2 => match us, ws, h1, h2 with | [_], [_], _, _ => rfl), gg_BadGrowth⟩, (T.err "BadGrowth" (by decide +kernel)).c⟩
  obtain ⟨fdi_BadLine, Fi_BadLine⟩ := c.def_ 25 (d := di_BadLine) rfl
  have Fi_BadLine : FunD K "__init__" "BadLine.__init__" (defArgs (metOf (top 12))) (defBody (metOf (top 12))) (defScope (metOf (top 12))) [] [] (He.ma K (He.ga K "BadLine") "__init__") fdi_BadLine := Fi_BadLine
  have M_BadLine : Mkr P w K mg base "BadLine" := ⟨⟨_, _, ok_init Fi_BadLine sci_BadLine (fun _ _ _ _ _ _ => ⟨pv 0, pv 1⟩), me_BadLine.1, me_BadLine.2, Fi_BadLine.bindsN fun _ _ _ _ _ _ us hl => match us, hl with | [_, _], _ => rfl, gg_BadLine⟩, (T.err "BadLine" (by decide +kernel)).c⟩
  have MK_BadLine : MkrK P w K mg base "BadLine" := ⟨⟨_, _, ok_init Fi_BadLine sci_BadLine (fun _ _ _ _ _ _ => ⟨pv 0, pv 1⟩), me_BadLine.1, me_BadLine.2, kb_of (ps := ["self", "thing"]) Fi_BadLine (fun _ _ _ _ _ _ us ws h1 h2 => match us, ws, h1, h2 with | [_], [_], _, _ => rfl), gg_BadLine⟩, (T.err "BadLine" (by decide +kernel)).c⟩
  obtain ⟨fdi_ZeroMiddle, Fi_ZeroMiddle⟩ := c.def_ 26 (d := di_ZeroMiddle) rfl
  have Fi_ZeroMiddle : FunD K "__init__" "ZeroMiddle.__init__" (defArgs (metOf (top 13))) (defBody (metOf (top 13))) (defScope (metOf (top 13))) [] [] (He.ma K (He.ga K "ZeroMiddle") "__init__") fdi_ZeroMiddle := Fi_ZeroMiddle
  have M_ZeroMiddle : Mkr P w K mg base "ZeroMiddle" := ⟨⟨_, _, ok_init Fi_ZeroMiddle sci_ZeroMiddle (fun _ _ _ _ _ _ => ⟨pv 0, pv 1⟩), me_ZeroMiddle.1, me_ZeroMiddle.2, Fi_ZeroMiddle.bindsN fun _ _ _ _ _ _ us hl => match us, hl with | [_, _], _ => rfl, gg_ZeroMiddle⟩, (T.err "ZeroMiddle" (by decide +kernel)).c⟩
  have MK_ZeroMiddle : MkrK P w K mg base "ZeroMiddle" := ⟨⟨_, _, ok_init Fi_ZeroMiddle sci_ZeroMiddle (fun _ _ _ _ _ _ => ⟨pv 0, pv 1⟩), me_ZeroMiddle.1, me_ZeroMiddle.2, kb_of (ps := ["self", "thing"]) Fi_ZeroMiddle (fun _ _ _ _ _ _ us ws h1 h2 => match us, ws, h1, h2 with | [_], [_], _, _ => rfl), gg_ZeroMiddle⟩, (T.err "ZeroMiddle" (by decide +kernel)).c⟩
  obtain ⟨fdi_BadShift, Fi_BadShift⟩ := c.def_ 27 (d := di_BadShift) rfl
  have Fi_BadShift : FunD K "__init__" "BadShift.__init__" (defArgs (metOf (top 14))) (defBody (metOf (top 14))) (defScope (metOf (top 14))) [] [] (He.ma K (He.ga K "BadShift") "__init__") fdi_BadShift := Fi_BadShift
  have M_BadShift : Mkr P w K mg base "BadShift" := ⟨⟨_, _, ok_init Fi_BadShift sci_BadShift (fun _ _ _ _ _ _ => ⟨pv 0, pv 1⟩), me_BadShift.1, me_BadShift.2, Fi_BadShift.bindsN fun _ _ _ _ _ _ us hl => match us, hl with | [_, _], _ => rfl, gg_BadShift⟩, (T.err "BadShift" (by decide +kernel)).c⟩
  have MK_BadShift : MkrK P w K mg base "BadShift" := ⟨⟨_, _, ok_init Fi_BadShift sci_BadShift (fun _ _ _ _ _ _ => ⟨pv 0, pv 1⟩), me_BadShift.1, me_BadShift.2, kb_of (ps := ["self", "thing"]) Fi_BadShift (fun _ _ _ _ _ _ us ws h1 h2 => match us, ws, h1, h2 with | [_], [_], _, _ => rfl), gg_BadShift⟩, (T.err "BadShift" (by decide +kernel)).c⟩
  obtain ⟨fdi_BadFactor, Fi_BadFactor⟩ := c.def_ 28 (d := di_BadFactor) rfl
  have Fi_BadFactor : FunD K "__init__" "BadFactor.__init__" (defArgs (metOf (top 15))) (defBody (metOf (top 15))) (defScope (metOf (top 15))) [] [] (He.ma K (He.ga K "BadFactor") "__init__") fdi_BadFactor := Fi_BadFactor
  have M_BadFactor : Mkr P w K mg base "BadFactor" := ⟨⟨_, _, ok_init Fi_BadFactor sci_BadFactor (fun _ _ _ _ _ _ => ⟨pv 0, pv 1⟩), me_BadFactor.1, me_BadFactor.2, Fi_BadFactor.bindsN fun _ _ _ _ _ _ us hl => match us, hl with | [_, _], _ => rfl, gg_BadFactor⟩, (T.err "BadFactor" (by decide +kernel)).c⟩
  have MK_BadFactor : MkrK P w K mg base "BadFactor" := ⟨⟨_, _, ok_init Fi_BadFactor sci_BadFactor (fun _ _ _ _ _ _ => ⟨pv 0, pv 1⟩), me_BadFactor.1, me_BadFactor.2, kb_of (ps := ["self", "thing"]) Fi_BadFactor (fun _ _ _ _ _ _ us ws h1 h2 => match us, ws, h1, h2 with | [_], [_], _, _ => rfl), gg_BadFactor⟩, (T.err "BadFactor" (by decide +kernel)).c⟩
  have C__law_deck : Cal__law_deck P w K mg base := ⟨⟨_, _, (ok_deck (k := 0) F__law_deck n_int n_list), m__law_deck, F__law_deck.kp, (all_1 (bs_0 (F__law_deck.bindsN fun _ _ _ _ _ _ us hl => match us, hl with | [_, _], _ => rfl)) all_0), all_0⟩⟩
  have C__law_draw : Cal__law_draw P w K mg base := ⟨⟨_, _, (ok_draw (k := 0) F__law_draw n_int n_max), m__law_draw, F__law_draw.kp, (all_1 (bs_0 (F__law_draw.bindsN fun _ _ _ _ _ _ us hl => match us, hl with | [_, _], _ => rfl)) all_0), all_0⟩⟩
  have C__law_pick : Cal__law_pick P w K mg base := ⟨⟨_, _, (ok__law_pick F__law_pick T C__law_draw), m__law_pick, F__law_pick.kp, (all_1 (bs_0 (F__law_pick.bindsN fun _ _ _ _ _ _ us hl => match us, hl with | [_, _], _ => rfl)) all_0), all_0⟩⟩
  have C__law_any_0 : Cal__law_any_0 P w K mg base := ⟨⟨_, _, none_G, m__law_any, F__law_any.kp, (all_1 (bs_0 (F__law_any.bindsN fun _ _ _ _ _ _ us hl => match us, hl with | [_, _], _ => rfl)) all_0), all_0⟩⟩
  have C__law_any_1 : Cal__law_any_1 P w K mg base := ⟨⟨_, _, (ok__law_any_1 F__law_any T C__law_any_0 C__law_draw C__law_pick), m__law_any, F__law_any.kp, (all_1 (bs_0 (F__law_any.bindsN fun _ _ _ _ _ _ us hl => match us, hl with | [_, _], _ => rfl)) all_0), all_0⟩⟩
  have C__law_any_2 : Cal__law_any_2 P w K mg base := ⟨⟨_, _, (ok__law_any_2 F__law_any T C__law_any_1 C__law_draw C__law_pick), m__law_any, F__law_any.kp, (all_1 (bs_0 (F__law_any.bindsN fun _ _ _ _ _ _ us hl => match us, hl with | [_, _], _ => rfl)) all_0), all_0⟩⟩
  have C__law_any_3 : Cal__law_any_3 P w K mg base := ⟨⟨_, _, (ok__law_any_3 F__law_any T C__law_any_2 C__law_draw C__law_pick), m__law_any, F__law_any.kp, (all_1 (bs_0 (F__law_any.bindsN fun _ _ _ _ _ _ us hl => match us, hl with | [_, _], _ => rfl)) all_0), all_0⟩⟩
  have C__law_any_4 : Cal__law_any_4 P w K mg base := ⟨⟨_, _, (ok__law_any_4 F__law_any T C__law_any_3 C__law_draw C__law_pick), m__law_any, F__law_any.kp, (all_1 (bs_0 (F__law_any.bindsN fun _ _ _ _ _ _ us hl => match us, hl with | [_, _], _ => rfl)) all_0), all_0⟩⟩
  have C__law_any : Cal__law_any P w K mg base := C__law_any_4
  have C__law_is_same_0 : Cal__law_is_same_0 P w K mg base := ⟨⟨_, _, none_N, m__law_is_same, F__law_is_same.kp, (all_1 (bs_0 (F__law_is_same.bindsN fun _ _ _ _ _ _ us hl => match us, hl with | [_, _], _ => rfl)) all_0), all_0⟩⟩
  have C__law_is_same_1 : Cal__law_is_same_1 P w K mg base := ⟨⟨_, _, (ok__law_is_same_1 F__law_is_same T C__law_is_same_0 ), m__law_is_same, F__law_is_same.kp, (all_1 (bs_0 (F__law_is_same.bindsN fun _ _ _ _ _ _ us hl => match us, hl with | [_, _], _ => rfl)) all_0), all_0⟩⟩
  have C__law_is_same_2 : Cal__law_is_same_2 P w K mg base := ⟨⟨_, _, (ok__law_is_same_2 F__law_is_same T C__law_is_same_1 ), m__law_is_same, F__law_is_same.kp, (all_1 (bs_0 (F__law_is_same.bindsN fun _ _ _ _ _ _ us hl => match us, hl with | [_, _], _ => rfl)) all_0), all_0⟩⟩
  have C__law_is_same_3 : Cal__law_is_same_3 P w K mg base := ⟨⟨_, _, (ok__law_is_same_3 F__law_is_same T C__law_is_same_2 ), m__law_is_same, F__law_is_same.kp, (all_1 (bs_0 (F__law_is_same.bindsN fun _ _ _ _ _ _ us hl => match us, hl with | [_, _], _ => rfl)) all_0), all_0⟩⟩
  have C__law_is_same_4 : Cal__law_is_same_4 P w K mg base := ⟨⟨_, _, (ok__law_is_same_4 F__law_is_same T C__law_is_same_3 ), m__law_is_same, F__law_is_same.kp, (all_1 (bs_0 (F__law_is_same.bindsN fun _ _ _ _ _ _ us hl => match us, hl with | [_, _], _ => rfl)) all_0), all_0⟩⟩
  have C__law_is_same_5 : Cal__law_is_same_5 P w K mg base := ⟨⟨_, _, (ok__law_is_same_5 F__law_is_same T C__law_is_same_4 ), m__law_is_same, F__law_is_same.kp, (all_1 (bs_0 (F__law_is_same.bindsN fun _ _ _ _ _ _ us hl => match us, hl with | [_, _], _ => rfl)) all_0), all_0⟩⟩
  have C__law_is_same_6 : Cal__law_is_same_6 P w K mg base := ⟨⟨_, _, (ok__law_is_same_6 F__law_is_same T C__law_is_same_5 ), m__law_is_same, F__law_is_same.kp, (all_1 (bs_0 (F__law_is_same.bindsN fun _ _ _ _ _ _ us hl => match us, hl with | [_, _], _ => rfl)) all_0), all_0⟩⟩
  have C__law_is_same_7 : Cal__law_is_same_7 P w K mg base := ⟨⟨_, _, (ok__law_is_same_7 F__law_is_same T C__law_is_same_6 ), m__law_is_same, F__law_is_same.kp, (all_1 (bs_0 (F__law_is_same.bindsN fun _ _ _ _ _ _ us hl => match us, hl with | [_, _], _ => rfl)) all_0), all_0⟩⟩
  have C__law_is_same_8 : Cal__law_is_same_8 P w K mg base := ⟨⟨_, _, (ok__law_is_same_8 F__law_is_same T C__law_is_same_7 ), m__law_is_same, F__law_is_same.kp, (all_1 (bs_0 (F__law_is_same.bindsN fun _ _ _ _ _ _ us hl => match us, hl with | [_, _], _ => rfl)) all_0), all_0⟩⟩
  have C__law_is_same_9 : Cal__law_is_same_9 P w K mg base := ⟨⟨_, _, (ok__law_is_same_9 F__law_is_same T C__law_is_same_8 ), m__law_is_same, F__law_is_same.kp, (all_1 (bs_0 (F__law_is_same.bindsN fun _ _ _ _ _ _ us hl => match us, hl with | [_, _], _ => rfl)) all_0), all_0⟩⟩
  have C__law_is_same : Cal__law_is_same P w K mg base := C__law_is_same_9
  have C__law_by_position : Cal__law_by_position P w K mg base := ⟨⟨_, _, (ok__law_by_position F__law_by_position T M_BadClass M_BadCount M_BadFactor M_BadFormula M_BadGrowth M_BadLine M_BadNumber M_BadParameter M_BadPlace M_BadPolynomial M_BadRule M_BadShift M_NoFormula M_OtherRoot M_ZeroMiddle), m__law_by_position, F__law_by_position.kp, (all_1 (bs_0 (F__law_by_position.bindsN fun _ _ _ _ _ _ us hl => match us, hl with | [_], _ => rfl)) all_0), all_0⟩⟩
  have C__law_by_name : Cal__law_by_name P w K mg base := ⟨⟨_, _, (ok__law_by_name F__law_by_name T MK_BadClass MK_BadCount MK_BadFactor MK_BadFormula MK_BadGrowth MK_BadLine MK_BadNumber MK_BadParameter MK_BadPlace MK_BadPolynomial MK_BadRule MK_BadShift MK_NoFormula MK_OtherRoot MK_ZeroMiddle), m__law_by_name, F__law_by_name.kp, (all_1 (bs_0 (F__law_by_name.bindsN fun _ _ _ _ _ _ us hl => match us, hl with | [_], _ => rfl)) all_0), all_0⟩⟩
  have C__law_carried : Cal__law_carried P w K mg base := ⟨⟨_, _, (ok__law_carried F__law_carried T ), m__law_carried, F__law_carried.kp, (all_1 (bs_0 (F__law_carried.bindsN fun _ _ _ _ _ _ us hl => match us, hl with | [_], _ => rfl)) all_0), all_0⟩⟩
  have C__law_kinds : Cal__law_kinds P w K mg base := ⟨⟨_, _, (ok__law_kinds F__law_kinds T ), m__law_kinds, F__law_kinds.kp, (all_1 (bs_0 (F__law_kinds.bindsN fun _ _ _ _ _ _ us hl => match us, hl with | [_], _ => rfl)) all_0), all_0⟩⟩
  have C__law_kindsE : Cal__law_kindsE P w K mg base := ⟨⟨_, _, (ok__law_kindsE F__law_kinds T ), m__law_kinds, F__law_kinds.kp, (all_1 (bs_0 (F__law_kinds.bindsN fun _ _ _ _ _ _ us hl => match us, hl with | [_], _ => rfl)) all_0), all_0⟩⟩
  have C__law_is_own : Cal__law_is_own P w K mg base := ⟨⟨_, _, (ok__law_is_own F__law_is_own T C__law_kinds), m__law_is_own, F__law_is_own.kp, (all_1 (bs_0 (F__law_is_own.bindsN fun _ _ _ _ _ _ us hl => match us, hl with | [_, _], _ => rfl)) all_0), all_0⟩⟩
  have C__law_raise : Cal__law_raise P w K mg base := ⟨⟨_, _, (ok__law_raise F__law_raise T M_BadClass M_BadFormula M_BadLine M_BadNumber M_BadParameter M_BadPlace M_BadPolynomial M_BadShift MK_BadCount MK_BadFactor MK_BadGrowth MK_BadRule MK_NoFormula MK_OtherRoot MK_ZeroMiddle), m__law_raise, F__law_raise.kp, (all_1 (bs_0 (F__law_raise.bindsN fun _ _ _ _ _ _ us hl => match us, hl with | [_, _], _ => rfl)) all_0), all_0⟩⟩
  have C__law_caught : Cal__law_caught P w K mg base := ⟨⟨_, _, (ok__law_caught F__law_caught T C__law_raise), m__law_caught, F__law_caught.kp, (all_1 (bs_0 (F__law_caught.bindsN fun _ _ _ _ _ _ us hl => match us, hl with | [_, _], _ => rfl)) all_0), all_0⟩⟩
  have C__law_caught_as_base : Cal__law_caught_as_base P w K mg base := ⟨⟨_, _, (ok__law_caught_as_base F__law_caught_as_base T C__law_kindsE C__law_raise), m__law_caught_as_base, F__law_caught_as_base.kp, (all_1 (bs_0 (F__law_caught_as_base.bindsN fun _ _ _ _ _ _ us hl => match us, hl with | [_, _], _ => rfl)) all_0), all_0⟩⟩
  exact ok_law F_law T C__law_deck C__law_any C__law_by_name C__law_by_position C__law_carried C__law_caught C__law_caught_as_base C__law_is_own C__law_is_same G_law
end K00
open PySem PySem.W PySem.Calls PyProof.Rows
theorem PySem.Challenge.cw_twicestep_k00_errors_by_position_and_by_holds : PySem.Challenge.rw_twicestep_k00_errors_by_position_and_by.Holds := by
  w_on; o_law
  refine HandSHeadRun.head_any (r := OpenLaw.row PySem.Challenge.rw_twicestep_k00_errors_by_position_and_by) (q := view (OpenLaw.row PySem.Challenge.rw_twicestep_k00_errors_by_position_and_by).prog [31]) (H := K00.hk) (ob := K00.ob) (M := 12000) (loose := K00.names) (d := HandSHeadRun.topDef (OpenLaw.row PySem.Challenge.rw_twicestep_k00_errors_by_position_and_by).prog 31) (kwd := []) K00.ob_eq
    (by kernel_rfl) (fun s => by kernel_rfl) K00.run (by kernel_rfl) (by kernel_rfl) (by kernel_rfl) (by rfl) (by first | assumption | decide +kernel) (by decide +kernel) ⟨rfl, rfl, rfl, rfl, rfl, by decide +kernel⟩ ?hw ?hc
  case hw => w_witness2
  case hc =>
    refine DL.walk_facts (l := PySem.Challenge.rw_twicestep_k00_errors_by_position_and_by) (n := 63) (k := 10) (x := "script") rfl (by decide) (by kernel_rfl) ⟨rfl, by decide, by decide⟩ ?F
    intro w mg fa h Y G hmg0
    obtain ⟨K, KX, c, ce⟩ := Y
    have hmg : mg ("law" : PySem.Str) = some (.ref fa) := by
      have e : (HandSHeadRun.topDef (OpenLaw.row PySem.Challenge.rw_twicestep_k00_errors_by_position_and_by).prog 31).name = ("law" : PySem.Str) := by kernel_rfl
      rw [← e]
      exact hmg0
    obtain ⟨fd, hb, hF⟩ := K00.facts (P := (PySem.Challenge.rw_twicestep_k00_errors_by_position_and_by).prog) (w := w) KX G hmg c ce
    exact ⟨K, fd, KX, hb, hF⟩
