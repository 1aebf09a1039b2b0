import PyProof.Rows.All
import Wide.All
import OpenK.AllK
import Wide.FinOn
import HandS.ForMost
import HandS.ForExc
import HandS.Walk
import HandS.Conv
import HandS.Deep
import HandS.TupAny
import HandS.NoneIn
import KE.GoesEnum
import KE.GoesMore
import HandS.WordsExc
import HandS.ExcOwn
import HandS.SortInts
import HandS.Strs
import HandS.Remove
import HandS.Style
import PySem.Challenge.RW_pairmart_k13_taking_turns
set_option Elab.async false
set_option linter.all false
set_option maxRecDepth 100000
/-! F0: deep data, owned data, how they stand in a heap, steps. -/
namespace FD
noncomputable section
open PySem L2

/-- how long a list may be; never unfolded -/
noncomputable def lim : Nat := Classical.choose (⟨sizeLine, rfl⟩ : ∃ n : Nat, n = sizeLine)
theorem lim_eq : lim = sizeLine := Classical.choose_spec (⟨sizeLine, rfl⟩ : ∃ n : Nat, n = sizeLine)
theorem lim_le {n : Nat} (h : n ≤ lim) : n ≤ sizeLine := by rw [← lim_eq]; exact h
/-- bounds of numbers; never unfolded -/
def b62 : Int := Classical.choose (⟨2 ^ 62, rfl⟩ : ∃ n : Int, n = 2 ^ 62)
theorem b62_eq : b62 = 2 ^ 62 := Classical.choose_spec (⟨2 ^ 62, rfl⟩ : ∃ n : Int, n = 2 ^ 62)
def b30 : Int := Classical.choose (⟨1073741824, rfl⟩ : ∃ n : Int, n = 1073741824)
theorem b30_eq : b30 = 1073741824 := Classical.choose_spec (⟨1073741824, rfl⟩ : ∃ n : Int, n = 1073741824)
def okI (j : Int) : Bool := decide (-b62 ≤ j) && decide (j < b62)
theorem okI_ok {j : Int} (h : okI j = true) : -(2 ^ 62) ≤ j ∧ j < 2 ^ 62 := by
  unfold okI at h; rw [Bool.and_eq_true, b62_eq] at h; exact ⟨of_decide_eq_true h.1, of_decide_eq_true h.2⟩
theorem okI_of {j : Int} (h1 : -(2 ^ 62) ≤ j) (h2 : j < 2 ^ 62) : okI j = true := by
  unfold okI; rw [Bool.and_eq_true, b62_eq]; exact ⟨decide_eq_true h1, decide_eq_true h2⟩
def okJ (j : Int) : Bool := decide (0 < j) && decide (j < b30)
theorem okJ_ok {j : Int} (h : okJ j = true) : 0 < j ∧ j < 1073741824 := by
  unfold okJ at h; rw [Bool.and_eq_true, b30_eq] at h; exact ⟨of_decide_eq_true h.1, of_decide_eq_true h.2⟩
theorem okJ_of {j : Int} (h1 : 0 < j) (h2 : j < 1073741824) : okJ j = true := by
  unfold okJ; rw [Bool.and_eq_true, b30_eq]; exact ⟨decide_eq_true h1, decide_eq_true h2⟩
/-- data that is never changed -/
inductive D where
  | non | bl (b : Bool) | int (i : Int) | str (s : Str)
  | tup (m : Bool) (xs : List D)
  | lst (xs : List D)
  | frl (xs : List D)
  | dK (kvs : List (Key × D))
  | dT (kvs : List (List Key × D))
  | ins (c : Nat) (fs : List (Str × D))
/-- data that one name alone holds, which may be changed -/
inductive O where
  | sh (d : D)
  | lst (xs : List O)
  | dK (kvs : List (Key × O))
  | dT (kvs : List (List Key × O))
  | ins (c : Nat) (fs : List (Str × O))

mutual
def O.frz : O → D
  | .sh d => d
  | .lst xs => .lst (frzL xs)
  | .dK kvs => .dK (frzK kvs)
  | .dT kvs => .dT (frzT kvs)
  | .ins c fs => .ins c (frzS fs)
def frzL : List O → List D
  | [] => []
  | x :: xs => x.frz :: frzL xs
def frzK : List (Key × O) → List (Key × D)
  | [] => []
  | (k, x) :: xs => (k, x.frz) :: frzK xs
def frzT : List (List Key × O) → List (List Key × D)
  | [] => []
  | (k, x) :: xs => (k, x.frz) :: frzT xs
def frzS : List (Str × O) → List (Str × D)
  | [] => []
  | (k, x) :: xs => (k, x.frz) :: frzS xs
end
theorem frzL_map : ∀ xs : List O, frzL xs = xs.map O.frz
  | [] => rfl
  | x :: xs => by rw [frzL, frzL_map xs, List.map_cons]
theorem frzK_map : ∀ xs : List (Key × O), frzK xs = xs.map fun p => (p.1, p.2.frz)
  | [] => rfl
  | (k, x) :: xs => by rw [frzK, frzK_map xs, List.map_cons]
theorem frzT_map : ∀ xs : List (List Key × O), frzT xs = xs.map fun p => (p.1, p.2.frz)
  | [] => rfl
  | (k, x) :: xs => by rw [frzT, frzT_map xs, List.map_cons]
theorem frzS_map : ∀ xs : List (Str × O), frzS xs = xs.map fun p => (p.1, p.2.frz)
  | [] => rfl
  | (k, x) :: xs => by rw [frzS, frzS_map xs, List.map_cons]
@[simp] theorem frz_sh (d : D) : (O.sh d).frz = d := by rw [O.frz]
@[simp] theorem frz_lst (xs : List O) : (O.lst xs).frz = .lst (xs.map O.frz) := by rw [O.frz, frzL_map]
@[simp] theorem frz_dK (xs : List (Key × O)) : (O.dK xs).frz = .dK (xs.map fun p => (p.1, p.2.frz)) := by rw [O.frz, frzK_map]
@[simp] theorem frz_dT (xs : List (List Key × O)) : (O.dT xs).frz = .dT (xs.map fun p => (p.1, p.2.frz)) := by rw [O.frz, frzT_map]
@[simp] theorem frz_ins (c : Nat) (xs : List (Str × O)) : (O.ins c xs).frz = .ins c (xs.map fun p => (p.1, p.2.frz)) := by rw [O.frz, frzS_map]

abbrev Fp := Addr → Prop
def Emp : Fp := fun _ => False
def Sub (G H : Hp) : Prop := ∀ a o, G a = some o → H a = some o
def NoTbl (o : HO) : Prop := ∀ ps, o ≠ .tbl ps

/-- a tuple of vs stands at p; m: its object is known, and no dict hangs on it (its methods may be called) -/
def TupAt (G : Hp) (p : Addr) (m : Bool) (vs : List V) : Prop := if m = true then ∃ o : Obj, G p = some (.frz o (.tup vs)) ∧ o.dict = none else G p = some (.tup vs)
/-- where the classes stand; which lists of the module are read -/
structure Wc where
  cls : Nat → Addr
  kl : Addr → List V → Prop
/-- d is v, in the part G of the heap that is never changed -/
inductive RpD (C : Wc) (G : Hp) : D → V → Prop
  | non : RpD C G .non .non
  | bl (b : Bool) : RpD C G (.bl b) (.bl b)
  | int (i : Int) : RpD C G (.int i) (.int i)
  | str (s : Str) : RpD C G (.str s) (.str s)
  | tup {m : Bool} {xs : List D} {p : Addr} {vs : List V} : TupAt G p m vs → xs.length = vs.length → (∀ (i : Nat) (d : D) (v : V), xs[i]? = some d → vs[i]? = some v → RpD C G d v) → RpD C G (.tup m xs) (.ref p)
  | frl {xs : List D} {p : Addr} {vs : List V} : (Rd G p (.lst vs) ∨ C.kl p vs) → xs.length = vs.length → (∀ (i : Nat) (d : D) (v : V), xs[i]? = some d → vs[i]? = some v → RpD C G d v) → RpD C G (.frl xs) (.ref p)
  | lst {xs : List D} {p : Addr} {vs : List V} : G p = some (.lst vs) → xs.length = vs.length → (∀ (i : Nat) (d : D) (v : V), xs[i]? = some d → vs[i]? = some v → RpD C G d v) → RpD C G (.lst xs) (.ref p)
  | dK {xs : List (Key × D)} {p : Addr} {vs : List (Key × V)} : G p = some (.dK vs) → xs.map (·.1) = vs.map (·.1) → (∀ (i : Nat) (d : D) (v : V), (xs.map (·.2))[i]? = some d → (vs.map (·.2))[i]? = some v → RpD C G d v) → RpD C G (.dK xs) (.ref p)
  | dT {xs : List (List Key × D)} {p : Addr} {vs : List (List Key × V)} : G p = some (.dT vs) → xs.map (·.1) = vs.map (·.1) → (∀ (i : Nat) (d : D) (v : V), (xs.map (·.2))[i]? = some d → (vs.map (·.2))[i]? = some v → RpD C G d v) → RpD C G (.dT xs) (.ref p)
  | ins {c : Nat} {xs : List (Str × D)} {p dx : Addr} {vs : List (Str × V)} : G p = some (.ins (C.cls c) dx vs) → xs.map (·.1) = vs.map (·.1) → (∀ (i : Nat) (d : D) (v : V), (xs.map (·.2))[i]? = some d → (vs.map (·.2))[i]? = some v → RpD C G d v) → RpD C G (.ins c xs) (.ref p)

/-- d is v; what it owns stands at F in H, out of G -/
inductive RpO (C : Wc) (G H : Hp) : O → V → Fp → Prop
  | sh {d : D} {v : V} {F : Fp} : RpD C G d v → (∀ a, ¬ F a) → RpO C G H (.sh d) v F
  | lst {xs : List O} {p : Addr} {vs : List V} {F : Fp} (Fs : Nat → Fp) : G p = none → H p = some (.lst vs) → xs.length = vs.length → (∀ (i : Nat) (d : O) (v : V), xs[i]? = some d → vs[i]? = some v → RpO C G H d v (Fs i)) →
      (∀ (i j : Nat) (a : Addr), i ≠ j → Fs i a → ¬ Fs j a) → (∀ (i : Nat) (a : Addr), Fs i a → i < xs.length ∧ a ≠ p) → (∀ a, F a ↔ a = p ∨ ∃ i, Fs i a) → RpO C G H (.lst xs) (.ref p) F
  | dK {xs : List (Key × O)} {p : Addr} {vs : List (Key × V)} {F : Fp} (Fs : Nat → Fp) : G p = none → H p = some (.dK vs) → xs.map (·.1) = vs.map (·.1) → (∀ (i : Nat) (d : O) (v : V), (xs.map (·.2))[i]? = some d → (vs.map (·.2))[i]? = some v → RpO C G H d v (Fs i)) →
      (∀ (i j : Nat) (a : Addr), i ≠ j → Fs i a → ¬ Fs j a) → (∀ (i : Nat) (a : Addr), Fs i a → i < xs.length ∧ a ≠ p) → (∀ a, F a ↔ a = p ∨ ∃ i, Fs i a) → RpO C G H (.dK xs) (.ref p) F
  | dT {xs : List (List Key × O)} {p : Addr} {vs : List (List Key × V)} {F : Fp} (Fs : Nat → Fp) : G p = none → H p = some (.dT vs) → xs.map (·.1) = vs.map (·.1) → (∀ (i : Nat) (d : O) (v : V), (xs.map (·.2))[i]? = some d → (vs.map (·.2))[i]? = some v → RpO C G H d v (Fs i)) →
      (∀ (i j : Nat) (a : Addr), i ≠ j → Fs i a → ¬ Fs j a) → (∀ (i : Nat) (a : Addr), Fs i a → i < xs.length ∧ a ≠ p) → (∀ a, F a ↔ a = p ∨ ∃ i, Fs i a) → RpO C G H (.dT xs) (.ref p) F
  | ins {c : Nat} {xs : List (Str × O)} {p dx : Addr} {vs : List (Str × V)} {F : Fp} (Fs : Nat → Fp) : G p = none → H p = some (.ins (C.cls c) dx vs) → xs.map (·.1) = vs.map (·.1) → (∀ (i : Nat) (d : O) (v : V), (xs.map (·.2))[i]? = some d → (vs.map (·.2))[i]? = some v → RpO C G H d v (Fs i)) →
      (∀ (i j : Nat) (a : Addr), i ≠ j → Fs i a → ¬ Fs j a) → (∀ (i : Nat) (a : Addr), Fs i a → i < xs.length ∧ a ≠ p) → (∀ a, F a ↔ a = p ∨ ∃ i, Fs i a) → RpO C G H (.ins c xs) (.ref p) F

section
variable {C : Wc} {G G' H H' : Hp}
theorem Rd.sub {a : Addr} {u : HO} (s : Sub G G') (h : Rd G a u) : Rd G' a u := by
  rcases h with h | ⟨o, h⟩
  · exact .inl (s _ _ h)
  · exact .inr ⟨o, s _ _ h⟩
theorem TupAt.sub {p : Addr} {m : Bool} {vs : List V} (s : Sub G G') (h : TupAt G p m vs) : TupAt G' p m vs := by
  cases m with
  | false => exact s _ _ h
  | true =>
    obtain ⟨o, h, e⟩ := h
    exact ⟨o, s _ _ h, e⟩
theorem TupAt.rd {p : Addr} {m : Bool} {vs : List V} (h : TupAt G p m vs) : Rd G p (.tup vs) := by
  cases m with
  | false => exact .inl h
  | true =>
    obtain ⟨o, h, e⟩ := h
    exact .inr ⟨o, h⟩
theorem RpD.sub {d : D} {v : V} (s : Sub G G') (h : RpD C G d v) : RpD C G' d v := by
  induction h with
  | non => exact .non
  | bl b => exact .bl b
  | int i => exact .int i
  | str x => exact .str x
  | tup r l _ ih => exact .tup (r.sub s) l ih
  | lst r l _ ih => exact .lst (s _ _ r) l ih
  | frl r l _ ih => exact .frl (r.imp (Rd.sub s) id) l ih
  | dK r l _ ih => exact .dK (s _ _ r) l ih
  | dT r l _ ih => exact .dT (s _ _ r) l ih
  | ins r l _ ih => exact .ins (s _ _ r) l ih
theorem RpO.own {d : O} {v : V} {F : Fp} (h : RpO C G H d v F) : ∀ a, F a → G a = none ∧ ∃ o, H a = some o ∧ NoTbl o := by
  induction h with
  | sh _ n => intro a ha; exact absurd ha (n a)
  | lst Fs g h l _ _ b hF ih =>
    intro a ha
    rcases (hF a).mp ha with rfl | ⟨i, hi⟩
    · exact ⟨g, _, h, fun ps e => by cases e⟩
    · obtain ⟨hl, _⟩ := b i a hi
      exact ih i _ _ (List.getElem?_eq_getElem hl) (List.getElem?_eq_getElem (by rw [← l]; exact hl)) a hi
  | dK Fs g h l _ _ b hF ih =>
    intro a ha
    rcases (hF a).mp ha with rfl | ⟨i, hi⟩
    · exact ⟨g, _, h, fun ps e => by cases e⟩
    · obtain ⟨hl, _⟩ := b i a hi
      have e : _ := congrArg List.length l
      simp only [List.length_map] at e
      exact ih i _ _ (List.getElem?_eq_getElem (by simpa using hl)) (List.getElem?_eq_getElem (by simpa [← e] using hl)) a hi
  | dT Fs g h l _ _ b hF ih =>
    intro a ha
    rcases (hF a).mp ha with rfl | ⟨i, hi⟩
    · exact ⟨g, _, h, fun ps e => by cases e⟩
    · obtain ⟨hl, _⟩ := b i a hi
      have e : _ := congrArg List.length l
      simp only [List.length_map] at e
      exact ih i _ _ (List.getElem?_eq_getElem (by simpa using hl)) (List.getElem?_eq_getElem (by simpa [← e] using hl)) a hi
  | ins Fs g h l _ _ b hF ih =>
    intro a ha
    rcases (hF a).mp ha with rfl | ⟨i, hi⟩
    · exact ⟨g, _, h, fun ps e => by cases e⟩
    · obtain ⟨hl, _⟩ := b i a hi
      have e : _ := congrArg List.length l
      simp only [List.length_map] at e
      exact ih i _ _ (List.getElem?_eq_getElem (by simpa using hl)) (List.getElem?_eq_getElem (by simpa [← e] using hl)) a hi
theorem RpO.keep {d : O} {v : V} {F : Fp} (s : Sub G G') (h : RpO C G H d v F) : (∀ a, F a → G' a = none ∧ H' a = H a) → RpO C G' H' d v F := by
  induction h with
  | sh r n => intro _; exact .sh (r.sub s) n
  | lst Fs g h l r dj b hF ih =>
    intro k
    obtain ⟨k1, k2⟩ := k _ ((hF _).mpr (.inl rfl))
    exact .lst Fs k1 (k2.trans h) l (fun i d v e1 e2 => ih i d v e1 e2 fun a ha => k a ((hF a).mpr (.inr ⟨i, ha⟩))) dj b hF
  | dK Fs g h l r dj b hF ih =>
    intro k
    obtain ⟨k1, k2⟩ := k _ ((hF _).mpr (.inl rfl))
    exact .dK Fs k1 (k2.trans h) l (fun i d v e1 e2 => ih i d v e1 e2 fun a ha => k a ((hF a).mpr (.inr ⟨i, ha⟩))) dj b hF
  | dT Fs g h l r dj b hF ih =>
    intro k
    obtain ⟨k1, k2⟩ := k _ ((hF _).mpr (.inl rfl))
    exact .dT Fs k1 (k2.trans h) l (fun i d v e1 e2 => ih i d v e1 e2 fun a ha => k a ((hF a).mpr (.inr ⟨i, ha⟩))) dj b hF
  | ins Fs g h l r dj b hF ih =>
    intro k
    obtain ⟨k1, k2⟩ := k _ ((hF _).mpr (.inl rfl))
    exact .ins Fs k1 (k2.trans h) l (fun i d v e1 e2 => ih i d v e1 e2 fun a ha => k a ((hF a).mpr (.inr ⟨i, ha⟩))) dj b hF
theorem get_map2 {κ α β : Type} {xs : List (κ × α)} {f : α → β} {i : Nat} {d : β} (h : ((xs.map fun p => (p.1, f p.2)).map (·.2))[i]? = some d) : ∃ x, (xs.map (·.2))[i]? = some x ∧ f x = d := by
  rw [List.map_map] at h
  have e : ((fun p : κ × β => p.2) ∘ fun p : κ × α => (p.1, f p.2)) = f ∘ (fun p : κ × α => p.2) := rfl
  rw [e, ← List.map_map, List.getElem?_map] at h
  cases q : (xs.map (·.2))[i]? with
  | none => rw [q] at h; cases h
  | some x => rw [q] at h; exact ⟨x, rfl, Option.some.inj h⟩
/-- what is owned is laid to what is never changed -/
theorem RpO.froz {d : O} {v : V} {F : Fp} (s : Sub G G') (h : RpO C G H d v F) : (∀ a, F a → G' a = H a) → RpD C G' d.frz v := by
  induction h with
  | sh r n => intro _; rw [frz_sh]; exact r.sub s
  | lst Fs g h l r dj b hF ih =>
    intro k
    rw [frz_lst]
    refine .lst ((k _ ((hF _).mpr (.inl rfl))).trans h) (by simpa using l) fun i d v e1 e2 => ?_
    rw [List.getElem?_map] at e1
    rename_i xs _ _ _
    cases q : xs[i]? with
    | none => rw [q] at e1; cases e1
    | some x =>
      rw [q] at e1
      have e : x.frz = d := Option.some.inj e1
      rw [← e]
      exact ih i x v q e2 fun a ha => k a ((hF a).mpr (.inr ⟨i, ha⟩))
  | dK Fs g h l r dj b hF ih =>
    intro k
    rw [frz_dK]
    refine .dK ((k _ ((hF _).mpr (.inl rfl))).trans h) (by rw [List.map_map]; exact l) fun i d v e1 e2 => ?_
    obtain ⟨x, q, rfl⟩ := get_map2 e1
    exact ih i x v q e2 fun a ha => k a ((hF a).mpr (.inr ⟨i, ha⟩))
  | dT Fs g h l r dj b hF ih =>
    intro k
    rw [frz_dT]
    refine .dT ((k _ ((hF _).mpr (.inl rfl))).trans h) (by rw [List.map_map]; exact l) fun i d v e1 e2 => ?_
    obtain ⟨x, q, rfl⟩ := get_map2 e1
    exact ih i x v q e2 fun a ha => k a ((hF a).mpr (.inr ⟨i, ha⟩))
  | ins Fs g h l r dj b hF ih =>
    intro k
    rw [frz_ins]
    refine .ins ((k _ ((hF _).mpr (.inl rfl))).trans h) (by rw [List.map_map]; exact l) fun i d v e1 e2 => ?_
    obtain ⟨x, q, rfl⟩ := get_map2 e1
    exact ih i x v q e2 fun a ha => k a ((hF a).mpr (.inr ⟨i, ha⟩))
end

/-! ### the static world -/
structure Wd where
  C : Wc
  tabs : List Addr
def TabOk (W : Wd) (H : Hp) : Prop := ∀ P ∈ W.tabs, ∃ ps : Array Value, H P = some (.tbl ps) ∧ TriplesOk ps.toList

/-- from (G, H), F owned, to (G', H'), F' owned -/
structure Step (W : Wd) (G H : Hp) (F : Fp) (G' H' : Hp) (F' : Fp) : Prop where
  g : Sub G G'
  h : ∀ a o, H a = some o → ¬ F a → NoTbl o → H' a = some o
  t : ∀ a, H a ≠ none → H' a ≠ none
  n : ∀ a, G' a ≠ none → G a ≠ none ∨ F a ∨ H a = none
  f : ∀ a, F' a → F a ∨ H a = none
  le : Sub G' H'
  b : TabOk W H'
section
variable {W : Wd} {G G' G'' H H' H'' : Hp} {F F' F'' : Fp}
theorem Step.refl (le : Sub G H) (b : TabOk W H) : Step W G H F G H F :=
  ⟨fun _ _ h => h, fun _ _ h _ _ => h, fun _ h => h, fun _ h => .inl h, fun _ h => .inl h, le, b⟩
theorem Step.refl' (le : Sub G H) (b : TabOk W H) (s : ∀ a, F' a → F a) : Step W G H F G H F' :=
  ⟨fun _ _ h => h, fun _ _ h _ _ => h, fun _ h => h, fun _ h => .inl h, fun a h => .inl (s a h), le, b⟩
theorem free_back (s : Step W G H F G' H' F') {a : Addr} (h : H' a = none) : H a = none := by
  cases q : H a with
  | none => rfl
  | some o => exact absurd h (s.t a (by rw [q]; simp))
theorem Step.trans (s : Step W G H F G' H' F') (s' : Step W G' H' F' G'' H'' F'') : Step W G H F G'' H'' F'' where
  g := fun a o h => s'.g a o (s.g a o h)
  h := fun a o h nf nt => s'.h a o (s.h a o h nf nt) (fun q => by
    rcases s.f a q with z | z
    · exact nf z
    · rw [h] at z; cases z) nt
  t := fun a h => s'.t a (s.t a h)
  n := fun a h => by
    rcases s'.n a h with z | z | z
    · exact s.n a z
    · exact .inr (s.f a z)
    · exact .inr (.inr (free_back s z))
  f := fun a h => by
    rcases s'.f a h with z | z
    · exact s.f a z
    · exact .inr (free_back s z)
  le := s'.le
  b := s'.b
/-- less is asked to be changed -/
theorem Step.wide (s : Step W G H F G' H' F') {F1 F1' : Fp} (h1 : ∀ a, F a → F1 a) (h2 : ∀ a, F1' a → F1 a ∨ F' a) : Step W G H F1 G' H' F1' where
  g := s.g
  h := fun a o h nf nt => s.h a o h (fun q => nf (h1 a q)) nt
  t := s.t
  n := fun a h => by
    rcases s.n a h with z | z | z
    · exact .inl z
    · exact .inr (.inl (h1 a z))
    · exact .inr (.inr z)
  f := fun a h => by
    rcases h2 a h with z | z
    · exact .inl z
    · rcases s.f a z with y | y
      · exact .inl (h1 a y)
      · exact .inr y
  le := s.le
  b := s.b
/-- what stands apart from what is changed -/
theorem RpO.step {C : Wc} {d : O} {v : V} {F1 : Fp} (r : RpO C G H d v F1) (s : Step W G H F G' H' F') (hd : ∀ a, F1 a → ¬ F a) : RpO C G' H' d v F1 := by
  refine r.keep s.g fun a ha => ?_
  obtain ⟨g, o, h, nt⟩ := r.own a ha
  refine ⟨?_, by rw [s.h a o h (hd a ha) nt, h]⟩
  cases q : G' a with
  | none => rfl
  | some u =>
    rcases s.n a (by rw [q]; simp) with z | z | z
    · exact absurd g z
    · exact absurd z (hd a ha)
    · rw [h] at z; cases z
theorem apart_after {C : Wc} {d : O} {v : V} {F1 : Fp} (r : RpO C G H d v F1) (s : Step W G H F G' H' F') (hd : ∀ a, F1 a → ¬ F a) : ∀ a, F1 a → ¬ F' a := fun a ha q => by
  obtain ⟨_, o, h, _⟩ := r.own a ha
  rcases s.f a q with z | z
  · exact hd a ha z
  · rw [h] at z; cases z
end

/-! ### a def's slots -/
abbrev En := List (Option O)
structure Sim (W : Wd) (G : Hp) (env : En) (σ : St) (H : Hp) (Fs : Nat → Fp) : Prop where
  le : Sub G H
  len : env.length = σ.length
  rp : ∀ i d, env[i]? = some (some d) → ∃ v, σ[i]? = some (some v) ∧ RpO W.C G H d v (Fs i)
  dj : ∀ i j a, i ≠ j → Fs i a → ¬ Fs j a
  ow : ∀ i a, Fs i a → G a = none ∧ ∃ o, H a = some o ∧ NoTbl o
  tb : TabOk W H
def All (Fs : Nat → Fp) : Fp := fun a => ∃ i, Fs i a
section
variable {W : Wd} {G G' H H' : Hp} {env : En} {σ : St} {Fs : Nat → Fp} {F F' : Fp}
theorem Sim.step (S : Sim W G env σ H Fs) (s : Step W G H F G' H' F') (hd : ∀ i a, Fs i a → ¬ F a) : Sim W G' env σ H' Fs where
  le := s.le
  len := S.len
  rp := fun i d e => let ⟨v, h1, h2⟩ := S.rp i d e; ⟨v, h1, h2.step s (hd i)⟩
  dj := S.dj
  ow := fun i a ha => by
    obtain ⟨g, o, h, nt⟩ := S.ow i a ha
    refine ⟨?_, o, s.h a o h (hd i a ha) nt, nt⟩
    cases q : G' a with
    | none => rfl
    | some u =>
      rcases s.n a (by rw [q]; simp) with z | z | z
      · exact absurd g z
      · exact absurd z (hd i a ha)
      · rw [h] at z; cases z
  tb := s.b
theorem Sim.step0 (S : Sim W G env σ H Fs) (s : Step W G H Emp G' H' F') : Sim W G' env σ H' Fs := S.step s fun _ _ _ h => h
theorem Sim.refl (S : Sim W G env σ H Fs) : Step W G H F G H F := Step.refl S.le S.tb
end

/-! ### results -/
inductive R (ε α : Type) where
  | ok (a : α) | exc (c : Nat) (e : ε) | stk
def R.bind {ε α β : Type} (r : R ε α) (f : α → R ε β) : R ε β :=
  match r with
  | .ok a => f a
  | .exc c e => .exc c e
  | .stk => .stk
@[simp] theorem bind_ok {ε α β : Type} (a : α) (f : α → R ε β) : (R.ok a : R ε α).bind f = f a := id rfl
@[simp] theorem bind_exc {ε α β : Type} (c : Nat) (e : ε) (f : α → R ε β) : (R.exc c e : R ε α).bind f = .exc c e := id rfl
@[simp] theorem bind_stk {ε α β : Type} (f : α → R ε β) : (R.stk : R ε α).bind f = .stk := id rfl
def ofO {ε α : Type} : Option α → R ε α
  | some a => .ok a
  | none => .stk
@[simp] theorem ofO_some {ε α : Type} (a : α) : (ofO (some a) : R ε α) = .ok a := id rfl
@[simp] theorem ofO_none {ε α : Type} : (ofO none : R ε α) = .stk := id rfl
abbrev RP := R Unit O
abbrev RB := R Unit Bool
abbrev RE := R En (O × En)

end
end FD


set_option Elab.async false
set_option linter.all false
set_option maxRecDepth 100000
/-! F1: judgements; names, constants, operators, tests, calls of built-ins by values. -/
namespace FD
noncomputable section
open PySem L2

section
variable (W : Wd) (Wx : WX)
/-- a pure expression whose value may belong to a slot -/
def tP (env : En) (r : RP) : TE := fun σ H Q => ∃ G Fs, Sim W G env σ H Fs ∧ match r with
  | .ok d => ∀ v G' H' F1, Step W G H Emp G' H' Emp → RpO W.C G' H' d v F1 → Q v H'
  | .exc c _ => ∀ G' H', Step W G H Emp G' H' Emp → Wx (.ref (W.C.cls c)) none σ H'
  | .stk => False
/-- a pure expression whose value is its own -/
def tV (env : En) (r : RP) : TE := fun σ H Q => ∃ G Fs, Sim W G env σ H Fs ∧ match r with
  | .ok d => ∀ v G' H' F1, Step W G H Emp G' H' F1 → RpO W.C G' H' d v F1 → Q v H'
  | .exc c _ => ∀ G' H', Step W G H Emp G' H' Emp → Wx (.ref (W.C.cls c)) none σ H'
  | .stk => False
/-- a pure test -/
def tT (env : En) (r : RB) : TT := fun σ H Q => ∃ G Fs, Sim W G env σ H Fs ∧ match r with
  | .ok b => ∀ G' H', Step W G H Emp G' H' Emp → Q b H'
  | .exc c _ => ∀ G' H', Step W G H Emp G' H' Emp → Wx (.ref (W.C.cls c)) none σ H'
  | .stk => False
/-- an expression that may change what the slots own -/
def tE (env : En) (r : RE) : TE := fun σ H Q => ∃ G Fs, Sim W G env σ H Fs ∧ match r with
  | .ok (d, env') => ∀ v G' H' F1 Fs', Step W G H (All Fs) G' H' (fun a => F1 a ∨ All Fs' a) → RpO W.C G' H' d v F1 → Sim W G' env' σ H' Fs' → (∀ i a, F1 a → ¬ Fs' i a) → Q v H'
  | .exc c env' => ∀ G' H' Fs', Step W G H (All Fs) G' H' (All Fs') → Sim W G' env' σ H' Fs' → Wx (.ref (W.C.cls c)) none σ H'
  | .stk => False
/-- .. a test -/
def tU (env : En) (r : R En (Bool × En)) : TT := fun σ H Q => ∃ G Fs, Sim W G env σ H Fs ∧ match r with
  | .ok (b, env') => ∀ G' H' Fs', Step W G H (All Fs) G' H' (All Fs') → Sim W G' env' σ H' Fs' → Q b H'
  | .exc c env' => ∀ G' H' Fs', Step W G H (All Fs) G' H' (All Fs') → Sim W G' env' σ H' Fs' → Wx (.ref (W.C.cls c)) none σ H'
  | .stk => False
/-- pure arguments -/
def RpL (G H : Hp) (ds : List O) (vs : List V) : Prop := Paired (fun d v => ∃ F, RpO W.C G H d v F) ds vs
def tA (env : En) (r : R Unit (List O)) : TA := fun σ H Q => ∃ G Fs, Sim W G env σ H Fs ∧ match r with
  | .ok ds => ∀ vs G' H', Step W G H Emp G' H' Emp → RpL W G' H' ds vs → Q vs H'
  | .exc c _ => ∀ G' H', Step W G H Emp G' H' Emp → Wx (.ref (W.C.cls c)) none σ H'
  | .stk => False
end

def SP (X : Cx) (W : Wd) (Wx : WX) (f : En → RP) (e : Expr) : Prop := ∀ env, PE X e (tP W Wx env (f env))
def SV (X : Cx) (W : Wd) (Wx : WX) (f : En → RP) (e : Expr) : Prop := ∀ env, PE X e (tV W Wx env (f env))
def ST (X : Cx) (W : Wd) (Wx : WX) (f : En → RB) (e : Expr) : Prop := ∀ env, PT X e (tT W Wx env (f env))
def SE (X : Cx) (W : Wd) (Wx : WX) (f : En → RE) (e : Expr) : Prop := ∀ env, PE X e (tE W Wx env (f env))
def SU (X : Cx) (W : Wd) (Wx : WX) (f : En → R En (Bool × En)) (e : Expr) : Prop := ∀ env, PT X e (tU W Wx env (f env))
def SA (X : Cx) (W : Wd) (Wx : WX) (f : En → R Unit (List O)) (es : List Expr) : Prop := ∀ env, PA X es (tA W Wx env (f env))

theorem _root_.L2.PE.imp {X : Cx} {e : Expr} {t t' : TE} (h : PE X e t) (hi : ∀ σ H Q, t' σ H Q → t σ H Q) : PE X e t' := ⟨fun pins s σ H Q I q => h.run pins s σ H Q I (hi σ H Q q)⟩
theorem _root_.L2.PT.imp {X : Cx} {e : Expr} {t t' : TT} (h : PT X e t) (hi : ∀ σ H Q, t' σ H Q → t σ H Q) : PT X e t' := ⟨fun pins s σ H Q I q => h.run pins s σ H Q I (hi σ H Q q)⟩
theorem _root_.L2.PA.imp {X : Cx} {e : List Expr} {t t' : TA} (h : PA X e t) (hi : ∀ σ H Q, t' σ H Q → t σ H Q) : PA X e t' := ⟨fun pos pins s σ H Q I q => h.run pos pins s σ H Q I (hi σ H Q q)⟩
theorem _root_.L2.PS.imp {X : Cx} {e : Stmt} {t t' : TS} (h : PS X e t) (hi : ∀ D σ H, t' D σ H → t D σ H) : PS X e t' := ⟨fun pins s σ H D I q => h.run pins s σ H D I (hi D σ H q)⟩
theorem _root_.L2.PSs.imp {X : Cx} {e : List Stmt} {t t' : TS} (h : PSs X e t) (hi : ∀ D σ H, t' D σ H → t D σ H) : PSs X e t' := ⟨fun pins s σ H D I q => h.run pins s σ H D I (hi D σ H q)⟩

section
variable {X : Cx} {W : Wd} {Wx : WX} {G G' H H' : Hp} {env : En} {σ : St} {Fs : Nat → Fp} {F F' : Fp}
theorem Step.emp (s : Step W G H Emp G' H' F') : Step W G H Emp G' H' Emp := s.wide (fun _ h => h) fun _ h => .inl h
/-- a later pure step keeps what was found -/
theorem RpO.step0 {d : O} {v : V} {F1 : Fp} (r : RpO W.C G H d v F1) (s : Step W G H Emp G' H' F') : RpO W.C G' H' d v F1 := r.step s fun _ _ h => h

/-! ### from one judgement to another -/
def pE (f : En → RP) : En → RE := fun env => match f env with
  | .ok d => .ok (d, env)
  | .exc c _ => .exc c env
  | .stk => .stk
theorem SV.sp {f : En → RP} {e : Expr} (h : SV X W Wx f e) : SP X W Wx f e := fun env => (h env).imp fun σ H Q => by
  rintro ⟨G, Fs, S, q⟩
  refine ⟨G, Fs, S, ?_⟩
  cases e1 : f env with
  | ok d => rw [e1] at q; exact fun v G' H' F1 s r => q v G' H' F1 s.emp r
  | exc c u => rw [e1] at q; exact q
  | stk => rw [e1] at q; exact q
theorem tV_tE {f : En → RP} {Q : VK} : tE W Wx env (pE f env) σ H Q → tV W Wx env (f env) σ H Q := by
  rintro ⟨G, Fs, S, q⟩
  refine ⟨G, Fs, S, ?_⟩
  unfold pE at q
  cases e1 : f env with
  | ok d =>
    rw [e1] at q
    intro v G' H' F1 s r
    refine q v G' H' F1 Fs (s.wide (fun _ h => h.elim) fun a h => ?_) r (S.step0 s) fun i a h1 h2 => ?_
    · rcases h with h | h
      · exact .inr h
      · exact .inl h
    · obtain ⟨_, o, hh, _⟩ := S.ow i a h2
      rcases s.f a h1 with z | z
      · exact z
      · rw [hh] at z; cases z
  | exc c u =>
    rw [e1] at q
    exact fun G' H' s => q G' H' Fs (s.wide (fun _ h => h.elim) fun a h => .inl h) (S.step0 s)
  | stk => rw [e1] at q; exact q
/-- a value that nothing else is to change -/
def bFrz (f : En → RP) : En → RP := fun env => (f env).bind fun d => .ok (.sh d.frz)
/-- what stands at F is laid to what is never changed -/
noncomputable def addG (G H : Hp) (F : Fp) : Hp := fun a => open Classical in if F a then H a else G a
theorem addG_step {d : O} {v : V} {F1 : Fp} (s : Step W G H F G' H' (fun a => F1 a ∨ F' a)) (r : RpO W.C G' H' d v F1) : Step W G H F (addG G' H' F1) H' F' ∧ Sub G' (addG G' H' F1) ∧ RpD W.C (addG G' H' F1) d.frz v := by
  have hs : Sub G' (addG G' H' F1) := fun a o h => by
    unfold addG
    split
    · exact s.le a o h
    · exact h
  refine ⟨⟨fun a o h => hs a o (s.g a o h), s.h, s.t, fun a h => ?_, fun a h => s.f a (.inr h), fun a o h => ?_, s.b⟩, hs, r.froz hs fun a ha => by unfold addG; rw [if_pos ha]⟩
  · unfold addG at h
    split at h
    · rename_i hf
      rcases s.f a (.inl hf) with z | z
      · exact .inr (.inl z)
      · exact .inr (.inr z)
    · exact s.n a h
  · unfold addG at h
    split at h
    · exact h
    · exact s.le a o h
theorem Sim.addG {F1 : Fp} (S : Sim W G env σ H Fs) (hd : ∀ i a, F1 a → ¬ Fs i a) : Sim W (addG G H F1) env σ H Fs where
  le := fun a o h => by
    unfold FD.addG at h
    split at h
    · exact h
    · exact S.le a o h
  len := S.len
  rp := fun i d e => by
    obtain ⟨v, h1, h2⟩ := S.rp i d e
    refine ⟨v, h1, h2.keep (fun a o h => ?_) fun a ha => ⟨?_, rfl⟩⟩
    · unfold FD.addG
      split
      · exact S.le a o h
      · exact h
    · unfold FD.addG
      rw [if_neg fun q => hd i a q ha]
      exact (S.ow i a ha).1
  dj := S.dj
  ow := fun i a ha => by
    obtain ⟨g, r⟩ := S.ow i a ha
    refine ⟨?_, r⟩
    unfold FD.addG
    rw [if_neg fun q => hd i a q ha]
    exact g
  tb := S.tb
theorem SV.se {f : En → RP} {e : Expr} (h : SV X W Wx f e) : SE X W Wx (pE f) e := fun env => (h env).imp fun σ H Q => tV_tE
theorem tV_frz {f : En → RP} {Q : VK} : tV W Wx env (bFrz f env) σ H Q → tV W Wx env (f env) σ H Q := by
  rintro ⟨G, Fs, S, q⟩
  refine ⟨G, Fs, S, ?_⟩
  unfold bFrz at q
  cases e1 : f env with
  | ok d =>
    rw [e1] at q
    intro v G' H' F1 s r
    obtain ⟨s', _, r'⟩ := addG_step (F' := Emp) (s.wide (fun _ h => h) fun a h => by
      rcases h with h | h
      · exact .inr h
      · exact .inl h) r
    exact q v _ H' Emp s' (.sh r' fun _ h => h)
  | exc c u => rw [e1] at q; exact q
  | stk => rw [e1] at q; exact q
theorem SV.frz {f : En → RP} {e : Expr} (h : SV X W Wx f e) : SV X W Wx (bFrz f) e := fun env => (h env).imp fun σ H Q => tV_frz
def eFrz (f : En → RE) : En → RE := fun env => (f env).bind fun p => .ok (.sh p.1.frz, p.2)
theorem tE_frz {f : En → RE} {Q : VK} : tE W Wx env (eFrz f env) σ H Q → tE W Wx env (f env) σ H Q := by
  rintro ⟨G, Fs, S, q⟩
  refine ⟨G, Fs, S, ?_⟩
  unfold eFrz at q
  cases e1 : f env with
  | ok p =>
    obtain ⟨d, env'⟩ := p
    rw [e1] at q
    intro v G' H' F1 Fs' s r S' dj
    obtain ⟨s', _, r'⟩ := addG_step s r
    exact q v _ H' Emp Fs' (s'.wide (fun _ h => h) fun a h => by
      rcases h with h | h
      · exact h.elim
      · exact .inr h) (.sh r' fun _ h => h) (S'.addG dj) fun _ _ h => h.elim
  | exc c u => rw [e1] at q; exact q
  | stk => rw [e1] at q; exact q

theorem SE.frz {f : En → RE} {e : Expr} (h : SE X W Wx f e) : SE X W Wx (eFrz f) e := fun env => (h env).imp fun σ H Q => tE_frz
/-! ### names and constants -/
def gt (env : En) (i : Nat) : Option O := match env[i]? with
  | some x => x
  | none => none
theorem gt_some {env : En} {i : Nat} {d : O} (h : gt env i = some d) : env[i]? = some (some d) := by
  unfold gt at h
  split at h
  · rename_i x e; rw [e, h]
  · cases h
def asSh : O → Option O
  | .sh d => some (.sh d)
  | _ => none
def bVar (i : Nat) : En → RP := fun env => ofO (gt env i)
/-- a name whose value is shared -/
def bSh (i : Nat) : En → RP := fun env => ofO ((gt env i).bind asSh)
theorem SP_var (i : Nat) {x : Str} {pos : Pos} (hN : X.N[i]? = some x := by rfl) (hv : Vis X.env.scope x := by first | exact Or.inl rfl | exact Or.inr (Or.inl rfl) | exact Or.inr (Or.inr rfl)) (hd : (x == ("__debug__" : Str)) = false := by decide)
    (hcd : (x == ("__classdict__" : Str)) = false := by decide) : SP X W Wx (bVar i) (.Name x pos) := fun env => (pe_var hN hv hd hcd).imp fun σ H Q => by
  rintro ⟨G, Fs, S, q⟩
  unfold bVar at q
  cases e : gt env i with
  | none => rw [e] at q; exact q.elim
  | some d =>
    rw [e] at q
    obtain ⟨v, h1, h2⟩ := S.rp i d (gt_some e)
    exact ⟨v, h1, q v G H (Fs i) S.refl h2⟩
theorem SV_sh (i : Nat) {x : Str} {pos : Pos} (hN : X.N[i]? = some x := by rfl) (hv : Vis X.env.scope x := by first | exact Or.inl rfl | exact Or.inr (Or.inl rfl) | exact Or.inr (Or.inr rfl)) (hd : (x == ("__debug__" : Str)) = false := by decide)
    (hcd : (x == ("__classdict__" : Str)) = false := by decide) : SV X W Wx (bSh i) (.Name x pos) := fun env => (pe_var hN hv hd hcd).imp fun σ H Q => by
  rintro ⟨G, Fs, S, q⟩
  unfold bSh at q
  cases e : gt env i with
  | none => rw [e] at q; exact q.elim
  | some d =>
    rw [e] at q
    cases d with
    | sh d =>
      obtain ⟨v, h1, h2⟩ := S.rp i _ (gt_some e)
      cases h2 with
      | sh r n => exact ⟨v, h1, q v G H Emp S.refl (.sh r fun _ h => h)⟩
    | _ => exact q.elim
def bC (d : D) : En → RP := fun _ => .ok (.sh d)
def tCk (v : V) : TE := tC v
theorem SV_const {d : D} {v : V} {e : Expr} (h : PE X e (tC v)) (r : ∀ G, RpD W.C G d v) : SV X W Wx (bC d) e := fun env => h.imp fun σ H Q => by
  rintro ⟨G, Fs, S, q⟩
  exact q v G H Emp S.refl (.sh (r G) fun _ h => h)
theorem SV_int {i : Int} {j : Nat} {pos : Pos} : SV X W Wx (bC (.int i)) (.Constant (.int i) j pos) := SV_const pe_int fun _ => .int i
theorem SV_bl {i : Bool} {j : Nat} {pos : Pos} : SV X W Wx (bC (.bl i)) (.Constant (.bool i) j pos) := SV_const pe_bl fun _ => .bl i
theorem SV_non {j : Nat} {pos : Pos} : SV X W Wx (bC .non) (.Constant .none j pos) := SV_const pe_non fun _ => .non
theorem SV_str {x : Str} {j : Nat} {pos : Pos} : SV X W Wx (bC (.str x)) (.Constant (.str x) j pos) := SV_const pe_str fun _ => .str x

/-! ### operators by values -/
/-- what a rule of two values asks is shown from go -/
def Op2 (W : Wd) (r : R2) (go : O → O → Option O) : Prop := ∀ (G H : Hp) (x y z : O) (v u : V) (F1 F2 : Fp) (Q : VK), Sub G H → TabOk W H → RpO W.C G H x v F1 → RpO W.C G H y u F2 → go x y = some z →
  (∀ w G' H' F', Step W G H Emp G' H' F' → RpO W.C G' H' z w F' → Q w H') → r v u H Q
def Op1 (W : Wd) (r : V → Hp → VK → Prop) (go : O → Option O) : Prop := ∀ (G H : Hp) (x z : O) (v : V) (F1 : Fp) (Q : VK), Sub G H → TabOk W H → RpO W.C G H x v F1 → go x = some z →
  (∀ w G' H' F', Step W G H Emp G' H' F' → RpO W.C G' H' z w F' → Q w H') → r v H Q
def OpN (W : Wd) (r : List V → Hp → VK → Prop) (go : List O → Option O) : Prop := ∀ (G H : Hp) (xs : List O) (z : O) (vs : List V) (Q : VK), Sub G H → TabOk W H → RpL W G H xs vs → go xs = some z →
  (∀ w G' H' F', Step W G H Emp G' H' F' → RpO W.C G' H' z w F' → Q w H') → r vs H Q
def OpM (W : Wd) (K : PySem.W.Frag) (T : String) (r : V → List V → Hp → VK → Prop) (go : O → List O → Option O) : Prop := ∀ (G H : Hp) (x : O) (xs : List O) (z : O) (v : V) (vs : List V) (F1 : Fp) (Q : VK), Sub G H → TabOk W H → RpO W.C G H x v F1 → RpL W G H xs vs → go x xs = some z →
  (∀ w G' H' F', Step W G H Emp G' H' F' → RpO W.C G' H' z w F' → Q w H') → r v vs H Q
def b2 (go : O → O → Option O) (f g : En → RP) : En → RP := fun env => (f env).bind fun x => (g env).bind fun y => ofO (go x y)
def b1 (go : O → Option O) (f : En → RP) : En → RP := fun env => (f env).bind fun x => ofO (go x)
def bN (go : List O → Option O) (f : En → R Unit (List O)) : En → RP := fun env => (f env).bind fun xs => ofO (go xs)
theorem op2_core {ta tb : TE} {r : R2} {go : O → O → Option O} {f g : En → RP} (ho : Op2 W r go) {Q : VK} (ha : ∀ Q', tP W Wx env (f env) σ H Q' → ta σ H Q') (hb : ∀ H' Q', tP W Wx env (g env) σ H' Q' → tb σ H' Q')
    (q : tV W Wx env (b2 go f g env) σ H Q) : ta σ H fun x H1 => tb σ H1 fun y H2 => r x y H2 Q := by
  obtain ⟨G, Fs, S, q⟩ := q
  refine ha _ ⟨G, Fs, S, ?_⟩
  unfold b2 at q
  cases e1 : f env with
  | stk => rw [e1] at q; exact q
  | exc c u => rw [e1] at q; exact q
  | ok x =>
    rw [e1, bind_ok] at q
    intro v G1 H1 F1 s1 r1
    have S1 := S.step0 s1
    refine hb _ _ ⟨G1, Fs, S1, ?_⟩
    cases e2 : g env with
    | stk => rw [e2] at q; exact q
    | exc c u => rw [e2] at q; exact fun G' H' s => q G' H' (s1.trans s)
    | ok y =>
      rw [e2, bind_ok] at q
      intro u G2 H2 F2 s2 r2
      cases e3 : go x y with
      | none => rw [e3] at q; exact q.elim
      | some z =>
        rw [e3] at q
        exact ho G2 H2 x y z v u F1 F2 Q s2.le s2.b (r1.step0 s2) r2 e3 fun w G' H' F' s r => q w G' H' F' ((s1.trans s2).trans s) r
theorem SV_op {op : Operator} {r : R2} {go : O → O → Option O} {f g : En → RP} {a b : Expr} {pos : Pos} (hr : OpR X (binaryOp op) r) (ho : Op2 W r go) (ha : SP X W Wx f a) (hb : SP X W Wx g b) : SV X W Wx (b2 go f g) (.BinOp a op b pos) :=
  fun env => (pe_op hr (ha env) (hb env)).imp fun σ H Q q => op2_core ho (fun _ h => h) (fun _ _ h => h) q
theorem SV_cmp {op : CmpOp} {r : R2} {go : O → O → Option O} {f g : En → RP} {a b : Expr} {pos : Pos} (hr : OpR X (compareOp op) r) (ho : Op2 W r go) (ha : SP X W Wx f a) (hb : SP X W Wx g b) (hm : behindInMarks op b = false) : SV X W Wx (b2 go f g) (.Compare a [op] [b] pos) :=
  fun env => (pe_cmpR hr (ha env) (hb env) hm).imp fun σ H Q q => op2_core ho (fun _ h => h) (fun _ _ h => h) q
theorem SV_ix {r : R2} {go : O → O → Option O} {f g : En → RP} {a b : Expr} {pos : Pos} (hr : IxR X r) (ho : Op2 W r go) (ha : SP X W Wx f a) (hb : SP X W Wx g b) (hs : PlainIx b) : SV X W Wx (b2 go f g) (.Subscript a b pos) :=
  fun env => (pe_ix hr (ha env) (hb env) hs).imp fun σ H Q q => op2_core ho (fun _ h => h) (fun _ _ h => h) q
theorem SV_un {op : UnaryOp} {r : V → Hp → VK → Prop} {go : O → Option O} {f : En → RP} {a : Expr} {pos : Pos} (hr : UnR X (unaryOp op) r) (ho : Op1 W r go) (ha : SP X W Wx f a) : SV X W Wx (b1 go f) (.UnaryOp op a pos) :=
  fun env => (pe_un hr (ha env)).imp fun σ H Q => by
    rintro ⟨G, Fs, S, q⟩
    refine ⟨G, Fs, S, ?_⟩
    unfold b1 at q
    cases e1 : f env with
    | stk => rw [e1] at q; exact q
    | exc c u => rw [e1] at q; exact q
    | ok x =>
      rw [e1, bind_ok] at q
      intro v G1 H1 F1 s1 r1
      cases e3 : go x with
      | none => rw [e3] at q; exact q.elim
      | some z =>
        rw [e3] at q
        exact ho G1 H1 x z v F1 Q s1.le s1.b r1 e3 fun w G' H' F' s r => q w G' H' F' (s1.trans s) r
/-! ### arguments -/
def aNil : En → R Unit (List O) := fun _ => .ok []
def aCons (f : En → RP) (g : En → R Unit (List O)) : En → R Unit (List O) := fun env => (f env).bind fun x => (g env).bind fun xs => .ok (x :: xs)
theorem SA_nil : SA X W Wx aNil [] := fun env => pa_nil.imp fun σ H Q => by
  rintro ⟨G, Fs, S, q⟩
  exact q [] G H S.refl .nil
theorem RpL.step0 {xs : List O} {vs : List V} (r : RpL W G H xs vs) (s : Step W G H Emp G' H' F') : RpL W G' H' xs vs := Paired.mapP r fun _ _ ⟨F, h⟩ => ⟨F, h.step0 s⟩
theorem SA_cons {f : En → RP} {g : En → R Unit (List O)} {e : Expr} {es : List Expr} (ha : SP X W Wx f e) (hr : SA X W Wx g es) (hs : starEach (e :: es) X.env = (false, eval e X.env) :: starEach es X.env := by rfl) : SA X W Wx (aCons f g) (e :: es) :=
  fun env => (pa_cons (ha env) (hr env) hs).imp fun σ H Q => by
    rintro ⟨G, Fs, S, q⟩
    refine ⟨G, Fs, S, ?_⟩
    unfold aCons at q
    cases e1 : f env with
    | stk => rw [e1] at q; exact q
    | exc c u => rw [e1] at q; exact q
    | ok x =>
      rw [e1, bind_ok] at q
      intro v G1 H1 F1 s1 r1
      refine ⟨G1, Fs, S.step0 s1, ?_⟩
      cases e2 : g env with
      | stk => rw [e2] at q; exact q
      | exc c u => rw [e2] at q; exact fun G' H' s => q G' H' (s1.trans s)
      | ok ys =>
        rw [e2, bind_ok] at q
        intro vs G2 H2 s2 r2
        exact q _ _ _ (s1.trans s2) (.cons ⟨F1, r1.step0 s2⟩ r2)
theorem callN_core {ta : TA} {r : List V → Hp → VK → Prop} {go : List O → Option O} {f : En → R Unit (List O)} {Q : VK} (ho : OpN W r go) (ha : ∀ Q', tA W Wx env (f env) σ H Q' → ta σ H Q') (q : tV W Wx env (bN go f env) σ H Q) : ta σ H fun vs H1 => r vs H1 Q := by
  obtain ⟨G, Fs, S, q⟩ := q
  refine ha _ ⟨G, Fs, S, ?_⟩
  unfold bN at q
  cases e1 : f env with
  | stk => rw [e1] at q; exact q
  | exc c u => rw [e1] at q; exact q
  | ok xs =>
    rw [e1, bind_ok] at q
    intro vs G1 H1 s1 r1
    cases e3 : go xs with
    | none => rw [e3] at q; exact q.elim
    | some z =>
      rw [e3] at q
      exact ho G1 H1 xs z vs Q s1.le s1.b r1 e3 fun w G' H' F' s r => q w G' H' F' (s1.trans s) r
theorem SV_callB {id : String} {x : Str} {p pos : Pos} {e : Expr} {es : List Expr} {r : List V → Hp → VK → Prop} {go : List O → Option O} {f : En → R Unit (List O)} (hc : CallR X (.builtin id) r) (ho : OpN W r go) (hg : Gl X x) (hm : X.mg x = none) (hv : bootBuiltins x = some (.builtin id)) (ha : SA X W Wx f (e :: es))
    (hn : x ≠ "__name__" := by decide) (hdb : (x == ("__debug__" : Str)) = false := by decide) (he : starEach (e :: es) X.env = (false, eval e X.env) :: starEach es X.env := by rfl) (hpl : (backTo pos (starEach es X.env)).any (·.1) = false := by rfl) :
    SV X W Wx (bN go f) (.Call (.Name x p) (e :: es) [] pos) := fun env => (pe_callB hc hg hm hv (ha env) hn hdb he hpl).imp fun σ H Q q => callN_core ho (fun _ h => h) q
theorem SV_callTy {T : String} {x : Str} {p pos : Pos} {e : Expr} {es : List Expr} {r : List V → Hp → VK → Prop} {go : List O → Option O} {f : En → R Unit (List O)} (hc : CallR X (.type T) r) (ho : OpN W r go) (hg : Gl X x) (hm : X.mg x = none) (hv : bootBuiltins x = some (.type T)) (ha : SA X W Wx f (e :: es))
    (hn : x ≠ "__name__" := by decide) (hdb : (x == ("__debug__" : Str)) = false := by decide) (he : starEach (e :: es) X.env = (false, eval e X.env) :: starEach es X.env := by rfl) (hpl : (backTo pos (starEach es X.env)).any (·.1) = false := by rfl) :
    SV X W Wx (bN go f) (.Call (.Name x p) (e :: es) [] pos) := fun env => (pe_callTy hc hg hm hv (ha env) hn hdb he hpl).imp fun σ H Q q => callN_core ho (fun _ h => h) q

/-! ### tests -/
def asB : O → Option Bool
  | .sh (.bl b) => some b
  | _ => none
def bT (f : En → RP) : En → RB := fun env => (f env).bind fun d => ofO (asB d)
theorem tT_of {t : TE} {f : En → RP} {Q : Bool → Hp → Prop} (h : ∀ Q', tP W Wx env (f env) σ H Q' → t σ H Q') (q : tT W Wx env (bT f env) σ H Q) : tB t σ H Q := by
  obtain ⟨G, Fs, S, q⟩ := q
  refine h _ ⟨G, Fs, S, ?_⟩
  unfold bT at q
  cases e1 : f env with
  | stk => rw [e1] at q; exact q
  | exc c u => rw [e1] at q; exact q
  | ok x =>
    rw [e1, bind_ok] at q
    intro v G1 H1 F1 s1 r1
    cases x with
    | sh d =>
      cases d with
      | bl b =>
        cases r1 with
        | sh r n => cases r; exact ⟨b, rfl, q G1 H1 s1⟩
      | _ => exact q.elim
    | _ => exact q.elim
theorem ST_val {f : En → RP} {e : Expr} (h : SP X W Wx f e) (he : ∀ whole, isTrue e X.env whole = (do let v ← whole; standAt e.pos; holding [v] (truthy v)) := by intro _; rfl) : ST X W Wx (bT f) e :=
  fun env => (pt_val (h env) he).imp fun σ H Q q => tT_of (fun _ h => h) q
theorem ST_cmp {op : CmpOp} {r : R2} {go : O → O → Option O} {f g : En → RP} {a b : Expr} {pos : Pos} (hr : OpR X (compareOp op) r) (ho : Op2 W r go) (ha : SP X W Wx f a) (hb : SP X W Wx g b) (hm : behindInMarks op b = false) : ST X W Wx (bT (b2 go f g)) (.Compare a [op] [b] pos) :=
  fun env => (pt_cmpR hr (ha env) (hb env) hm).imp fun σ H Q q => by
    show tOp r (tP W Wx env (f env)) (tP W Wx env (g env)) σ H fun x H' => ∃ k, x = .bl k ∧ Q k H'
    refine op2_core ho (fun _ h => h) (fun _ _ h => h) ?_
    obtain ⟨G, Fs, S, q⟩ := q
    refine ⟨G, Fs, S, ?_⟩
    unfold bT at q
    cases e1 : b2 go f g env with
    | stk => rw [e1] at q; exact q
    | exc c u => rw [e1] at q; exact q
    | ok x =>
      rw [e1, bind_ok] at q
      intro v G1 H1 F1 s1 r1
      cases x with
      | sh d =>
        cases d with
        | bl b =>
          cases r1 with
          | sh r n => cases r; exact ⟨b, rfl, q G1 H1 s1.emp⟩
        | _ => exact q.elim
      | _ => exact q.elim
def bNot (f : En → RB) : En → RB := fun env => (f env).bind fun b => .ok (!b)
theorem ST_not {f : En → RB} {a : Expr} {pos : Pos} (h : ST X W Wx f a) : ST X W Wx (bNot f) (.UnaryOp .Not a pos) := fun env => (pt_not (h env)).imp fun σ H Q => by
  rintro ⟨G, Fs, S, q⟩
  refine ⟨G, Fs, S, ?_⟩
  unfold bNot at q
  cases e1 : f env with
  | stk => rw [e1] at q; exact q
  | exc c u => rw [e1] at q; exact q
  | ok b => rw [e1] at q; exact q
def STw (X : Cx) (W : Wd) (Wx : WX) (f : En → RB) (e : Expr) : Prop := ∀ env, PW X e (tT W Wx env (f env))
def bAnd (f g : En → RB) : En → RB := fun env => (f env).bind fun b => if b then g env else .ok false
def bOr (f g : En → RB) : En → RB := fun env => (f env).bind fun b => if b then .ok true else g env
theorem _root_.L2.PW.imp {X : Cx} {e : Expr} {t t' : TT} (h : PW X e t) (hi : ∀ σ H Q, t' σ H Q → t σ H Q) : PW X e t' := ⟨fun wh pins s σ H Q I q => h.run wh pins s σ H Q I (hi σ H Q q)⟩
theorem STw.st {f : En → RB} {e : Expr} (h : STw X W Wx f e) : ST X W Wx f e := fun env => (h env).pt
theorem STw_and1 {f : En → RB} {a : Expr} {pos : Pos} (h : ST X W Wx f a) : STw X W Wx f (.BoolOp .And [a] pos) := fun env => pw_and1 (h env)
theorem STw_or1 {f : En → RB} {a : Expr} {pos : Pos} (h : ST X W Wx f a) : STw X W Wx f (.BoolOp .Or [a] pos) := fun env => pw_or1 (h env)
theorem and_core {ta tb : TT} {f g : En → RB} {Q : Bool → Hp → Prop} (ha : ∀ Q', tT W Wx env (f env) σ H Q' → ta σ H Q') (hb : ∀ H' Q', tT W Wx env (g env) σ H' Q' → tb σ H' Q') (q : tT W Wx env (bAnd f g env) σ H Q) :
    ta σ H fun c H1 => if c = true then tb σ H1 Q else Q false H1 := by
  obtain ⟨G, Fs, S, q⟩ := q
  refine ha _ ⟨G, Fs, S, ?_⟩
  unfold bAnd at q
  cases e1 : f env with
  | stk => rw [e1] at q; exact q
  | exc c u => rw [e1] at q; exact q
  | ok b =>
    rw [e1, bind_ok] at q
    intro G1 H1 s1
    cases b with
    | false => rw [if_neg (by decide)] at q ⊢; exact q G1 H1 s1
    | true =>
      rw [if_pos rfl] at q ⊢
      refine hb _ _ ⟨G1, Fs, S.step0 s1, ?_⟩
      cases e2 : g env with
      | stk => rw [e2] at q; exact q
      | exc c u => rw [e2] at q; exact fun G' H' s => q G' H' (s1.trans s)
      | ok b => rw [e2] at q; exact fun G' H' s => q G' H' (s1.trans s)
theorem or_core {ta tb : TT} {f g : En → RB} {Q : Bool → Hp → Prop} (ha : ∀ Q', tT W Wx env (f env) σ H Q' → ta σ H Q') (hb : ∀ H' Q', tT W Wx env (g env) σ H' Q' → tb σ H' Q') (q : tT W Wx env (bOr f g env) σ H Q) :
    ta σ H fun c H1 => if c = true then Q true H1 else tb σ H1 Q := by
  obtain ⟨G, Fs, S, q⟩ := q
  refine ha _ ⟨G, Fs, S, ?_⟩
  unfold bOr at q
  cases e1 : f env with
  | stk => rw [e1] at q; exact q
  | exc c u => rw [e1] at q; exact q
  | ok b =>
    rw [e1, bind_ok] at q
    intro G1 H1 s1
    cases b with
    | true => rw [if_pos rfl] at q ⊢; exact q G1 H1 s1
    | false =>
      rw [if_neg (by decide)] at q ⊢
      refine hb _ _ ⟨G1, Fs, S.step0 s1, ?_⟩
      cases e2 : g env with
      | stk => rw [e2] at q; exact q
      | exc c u => rw [e2] at q; exact fun G' H' s => q G' H' (s1.trans s)
      | ok b => rw [e2] at q; exact fun G' H' s => q G' H' (s1.trans s)
theorem STw_and {f g : En → RB} {a b : Expr} {rest : List Expr} {pos : Pos} (ha : ST X W Wx f a) (hb : STw X W Wx g (.BoolOp .And (b :: rest) pos)) : STw X W Wx (bAnd f g) (.BoolOp .And (a :: b :: rest) pos) :=
  fun env => (pw_and (ha env) (hb env)).imp fun σ H Q q => and_core (fun _ h => h) (fun _ _ h => h) q
theorem STw_or {f g : En → RB} {a b : Expr} {rest : List Expr} {pos : Pos} (ha : ST X W Wx f a) (hb : STw X W Wx g (.BoolOp .Or (b :: rest) pos)) : STw X W Wx (bOr f g) (.BoolOp .Or (a :: b :: rest) pos) :=
  fun env => (pw_or (ha env) (hb env)).imp fun σ H Q q => or_core (fun _ h => h) (fun _ _ h => h) q
/-- a test as a value -/
def bOfT (f : En → RB) : En → RP := fun env => (f env).bind fun b => .ok (.sh (.bl b))
theorem SV_and1 {f : En → RP} {op : BoolOp} {a : Expr} {pos : Pos} (h : SV X W Wx f a) : SV X W Wx f (.BoolOp op [a] pos) := fun env => pe_one (h env)
/-- and, or as values: the part ahead a truth value -/
def bAndV (f g : En → RP) : En → RP := fun env => (f env).bind fun x => (ofO (asB x) : RB).bind fun b => if b then g env else .ok (.sh (.bl false))
def bOrV (f g : En → RP) : En → RP := fun env => (f env).bind fun x => (ofO (asB x) : RB).bind fun b => if b then .ok (.sh (.bl true)) else g env
theorem rp_bl {d : O} {v : V} {F1 : Fp} {b : Bool} (r : RpO W.C G H d v F1) (e : asB d = some b) : d = .sh (.bl b) ∧ v = .bl b := by
  cases d with
  | sh d =>
    cases d with
    | bl c =>
      cases e
      cases r with
      | sh r n => cases r; exact ⟨rfl, rfl⟩
    | _ => cases e
  | _ => cases e
theorem SV_and {f g : En → RP} {a b : Expr} {rest : List Expr} {pos : Pos} (ha : SP X W Wx f a) (hb : SV X W Wx g (.BoolOp .And (b :: rest) pos)) : SV X W Wx (bAndV f g) (.BoolOp .And (a :: b :: rest) pos) :=
  fun env => (pe_and (ha env) (hb env)).imp fun σ H Q => by
    rintro ⟨G, Fs, S, q⟩
    refine ⟨G, Fs, S, ?_⟩
    unfold bAndV at q
    cases e1 : f env with
    | stk => rw [e1] at q; exact q
    | exc c u => rw [e1] at q; exact q
    | ok x =>
      rw [e1, bind_ok] at q
      intro v G1 H1 F1 s1 r1
      cases e2 : asB x with
      | none => rw [e2] at q; exact q.elim
      | some b =>
        rw [e2, ofO_some, bind_ok] at q
        obtain ⟨rfl, rfl⟩ := rp_bl r1 e2
        refine ⟨b, rfl, ?_⟩
        cases b with
        | false => rw [if_neg (by decide)] at q ⊢; exact q _ G1 H1 Emp s1 (.sh (.bl _) fun _ h => h)
        | true =>
          rw [if_pos rfl] at q ⊢
          refine ⟨G1, Fs, S.step0 s1, ?_⟩
          cases e3 : g env with
          | stk => rw [e3] at q; exact q
          | exc c u => rw [e3] at q; exact fun G' H' s => q G' H' (s1.trans s)
          | ok b => rw [e3] at q; exact fun w G' H' F' s => q w G' H' F' (s1.trans s)
theorem SV_or {f g : En → RP} {a b : Expr} {rest : List Expr} {pos : Pos} (ha : SP X W Wx f a) (hb : SV X W Wx g (.BoolOp .Or (b :: rest) pos)) : SV X W Wx (bOrV f g) (.BoolOp .Or (a :: b :: rest) pos) :=
  fun env => (pe_or (ha env) (hb env)).imp fun σ H Q => by
    rintro ⟨G, Fs, S, q⟩
    refine ⟨G, Fs, S, ?_⟩
    unfold bOrV at q
    cases e1 : f env with
    | stk => rw [e1] at q; exact q
    | exc c u => rw [e1] at q; exact q
    | ok x =>
      rw [e1, bind_ok] at q
      intro v G1 H1 F1 s1 r1
      cases e2 : asB x with
      | none => rw [e2] at q; exact q.elim
      | some b =>
        rw [e2, ofO_some, bind_ok] at q
        obtain ⟨rfl, rfl⟩ := rp_bl r1 e2
        refine ⟨b, rfl, ?_⟩
        cases b with
        | true => rw [if_pos rfl] at q ⊢; exact q _ G1 H1 Emp s1 (.sh (.bl _) fun _ h => h)
        | false =>
          rw [if_neg (by decide)] at q ⊢
          refine ⟨G1, Fs, S.step0 s1, ?_⟩
          cases e3 : g env with
          | stk => rw [e3] at q; exact q
          | exc c u => rw [e3] at q; exact fun G' H' s => q G' H' (s1.trans s)
          | ok b => rw [e3] at q; exact fun w G' H' F' s => q w G' H' F' (s1.trans s)
/-- a if t else b -/
def bIf (c : En → RB) (f g : En → RP) : En → RP := fun env => (c env).bind fun b => if b then f env else g env
theorem SV_if {c : En → RB} {f g : En → RP} {t a b : Expr} {pos : Pos} (hc : ST X W Wx c t) (ha : SV X W Wx f a) (hb : SV X W Wx g b) : SV X W Wx (bIf c f g) (.IfExp t a b pos) := fun env => (pe_ifExp (hc env) (ha env) (hb env)).imp fun σ H Q => by
  rintro ⟨G, Fs, S, q⟩
  refine ⟨G, Fs, S, ?_⟩
  unfold bIf at q
  cases e1 : c env with
  | stk => rw [e1] at q; exact q
  | exc c u => rw [e1] at q; exact q
  | ok x =>
    rw [e1, bind_ok] at q
    intro G1 H1 s1
    cases x with
    | true =>
      rw [if_pos rfl] at q ⊢
      refine ⟨G1, Fs, S.step0 s1, ?_⟩
      cases e3 : f env with
      | stk => rw [e3] at q; exact q
      | exc c u => rw [e3] at q; exact fun G' H' s => q G' H' (s1.trans s)
      | ok b => rw [e3] at q; exact fun w G' H' F' s => q w G' H' F' (s1.trans s)
    | false =>
      rw [if_neg (by decide)] at q ⊢
      refine ⟨G1, Fs, S.step0 s1, ?_⟩
      cases e3 : g env with
      | stk => rw [e3] at q; exact q
      | exc c u => rw [e3] at q; exact fun G' H' s => q G' H' (s1.trans s)
      | ok b => rw [e3] at q; exact fun w G' H' F' s => q w G' H' F' (s1.trans s)
end
end
end FD


set_option Elab.async false
set_option linter.all false
set_option maxRecDepth 100000
/-! F2: operations by values. -/
namespace FD
noncomputable section
open PySem L2

section
variable {W : Wd} {Wx : WX} {G G' H H' : Hp} {F F' : Fp}

/-! ### new objects -/
theorem tab_upd (b : TabOk W H) {p : Addr} {o : HO} (hp : H p = none) : TabOk W (upd H p o) := fun P hP => by
  obtain ⟨ps, h, t⟩ := b P hP
  exact ⟨ps, by rw [upd_ne (ne_of_none h hp)]; exact h, t⟩
theorem sub_upd {p : Addr} {o : HO} (hp : H p = none) : Sub H (upd H p o) := fun a u h => by rw [upd_ne (ne_of_none h hp)]; exact h
/-- a new object that is owned -/
theorem step_own (le : Sub G H) (b : TabOk W H) {p : Addr} {o : HO} (hp : H p = none) : Step W G H Emp G (upd H p o) (fun a => a = p) where
  g := fun _ _ h => h
  h := fun a u h _ _ => sub_upd hp a u h
  t := fun a h => by
    by_cases e : a = p
    · rw [e, hp] at h; exact absurd rfl h
    · rw [upd_ne e]; exact h
  n := fun a h => .inl h
  f := fun a h => .inr (by rw [h]; exact hp)
  le := fun a u h => sub_upd hp a u (le a u h)
  b := tab_upd b hp
/-- a new object that is shared -/
theorem step_sh (le : Sub G H) (b : TabOk W H) {p : Addr} {o : HO} (hp : H p = none) : Step W G H Emp (upd G p o) (upd H p o) Emp where
  g := sub_upd (by
    cases q : G p with
    | none => rfl
    | some u => rw [le p u q] at hp; cases hp)
  h := fun a u h _ _ => sub_upd hp a u h
  t := fun a h => by
    by_cases e : a = p
    · rw [e, hp] at h; exact absurd rfl h
    · rw [upd_ne e]; exact h
  n := fun a h => by
    by_cases e : a = p
    · rw [e]; exact .inr (.inr hp)
    · rw [upd_ne e] at h; exact .inl h
  f := fun a h => h.elim
  le := fun a u h => by
    by_cases e : a = p
    · rw [e, upd_same] at h ⊢; exact h
    · rw [upd_ne e] at h ⊢; exact le a u h
  b := tab_upd b hp
theorem none_of_le (le : Sub G H) {p : Addr} (hp : H p = none) : G p = none := by
  cases q : G p with
  | none => rfl
  | some u => rw [le p u q] at hp; cases hp

/-- shared items -/
def RpDs (W : Wd) (G : Hp) (xs : List D) (vs : List V) : Prop := Paired (fun d v => RpD W.C G d v) xs vs
theorem paired_get' {α β : Type} {R : α → β → Prop} {l₁ : List α} {l₂ : List β} (h : Paired R l₁ l₂) : ∀ (i : Nat) (a : α) (b : β), l₁[i]? = some a → l₂[i]? = some b → R a b := fun i a b e1 e2 => by
  obtain ⟨b', e, r⟩ := paired_get h e1
  rw [e2] at e
  cases e
  exact r
theorem paired_of {α β : Type} {R : α → β → Prop} : ∀ {l₁ : List α} {l₂ : List β}, l₁.length = l₂.length → (∀ (i : Nat) (a : α) (b : β), l₁[i]? = some a → l₂[i]? = some b → R a b) → Paired R l₁ l₂
  | [], [], _, _ => .nil
  | [], _ :: _, h, _ => by simp at h
  | _ :: _, [], h, _ => by simp at h
  | a :: l₁, b :: l₂, h, r => .cons (r 0 a b rfl rfl) (paired_of (by simpa using h) fun i a b e1 e2 => r (i + 1) a b e1 e2)
theorem RpDs.sub {xs : List D} {vs : List V} (s : Sub G G') (h : RpDs W G xs vs) : RpDs W G' xs vs := Paired.mapP h fun _ _ r => r.sub s
theorem RpDs.tup {xs : List D} {vs : List V} {p : Addr} (r : G p = some (.tup vs)) (h : RpDs W G xs vs) : RpD W.C G (.tup false xs) (.ref p) := .tup (m := false) r h.length (paired_get' h)
theorem RpDs.lst {xs : List D} {vs : List V} {p : Addr} (r : G p = some (.lst vs)) (h : RpDs W G xs vs) : RpD W.C G (.lst xs) (.ref p) := .lst r h.length (paired_get' h)
theorem RpDs.own {xs : List D} {vs : List V} {p : Addr} (g : G p = none) (r : H p = some (.lst vs)) (h : RpDs W G xs vs) : RpO W.C G H (.lst (xs.map O.sh)) (.ref p) (fun a => a = p) :=
  .lst (fun _ => Emp) g r (by rw [List.length_map]; exact h.length) (fun i d v e1 e2 => by
    rw [List.getElem?_map] at e1
    cases q : xs[i]? with
    | none => rw [q] at e1; cases e1
    | some x =>
      rw [q] at e1
      cases e1
      exact .sh (paired_get' h i x v q e2) fun _ h => h) (fun _ _ _ _ h => h.elim) (fun _ _ h => h.elim) fun a => ⟨fun h => .inl h, fun h => h.elim id fun ⟨_, h⟩ => h.elim⟩
theorem RpO.sh' {d : D} {v : V} (h : RpD W.C G d v) : RpO W.C G H (.sh d) v Emp := .sh h fun _ h => h

/-! ### reading values -/
def asI : O → Option Int
  | .sh (.int i) => some i
  | _ => none
def asD : O → Option D
  | .sh d => some d
  | _ => none
theorem asI_some {x : O} {i : Int} (h : asI x = some i) : x = .sh (.int i) := by
  unfold asI at h
  split at h
  · cases h; rfl
  · cases h
theorem asD_some {x : O} {i : D} (h : asD x = some i) : x = .sh i := by
  unfold asD at h
  split at h
  · cases h; rfl
  · cases h
theorem rp_int {i : Int} {v : V} {F : Fp} {C : Wc} (r : RpO C G H (.sh (.int i)) v F) : v = .int i := by cases r with | sh r _ => cases r; rfl
theorem rp_str {i : Str} {v : V} {F : Fp} {C : Wc} (r : RpO C G H (.sh (.str i)) v F) : v = .str i := by cases r with | sh r _ => cases r; rfl
theorem rp_non {v : V} {F : Fp} {C : Wc} (r : RpO C G H (.sh .non) v F) : v = .non := by cases r with | sh r _ => cases r; rfl
theorem rp_sh {d : D} {v : V} {F : Fp} {C : Wc} (r : RpO C G H (.sh d) v F) : RpD C G d v := by cases r with | sh r _ => exact r

/-! ### ints -/
def oI (g : Int → Int → D) : O → O → Option O := fun x y => (asI x).bind fun i => (asI y).bind fun j => some (.sh (g i j))
def oIc (c : Int → Int → Bool) (g : Int → Int → D) : O → O → Option O := fun x y => (asI x).bind fun i => (asI y).bind fun j => if c i j then some (.sh (g i j)) else none
theorem op2_I {gd : Int → Int → D} {gv : Int → Int → V} (hg : ∀ i j G, RpD W.C G (gd i j) (gv i j)) : Op2 W (rI0 gv) (oI gd) := by
  intro G H x y z v u F1 F2 Q le b rx ry e q
  unfold oI at e
  cases e1 : asI x with
  | none => rw [e1] at e; cases e
  | some i =>
    rw [e1, Option.bind_some] at e
    cases e2 : asI y with
    | none => rw [e2] at e; cases e
    | some j =>
      rw [e2, Option.bind_some] at e
      cases e
      rw [asI_some e1] at rx
      rw [asI_some e2] at ry
      exact ⟨i, j, rp_int rx, rp_int ry, q _ G H Emp (Step.refl le b) (.sh' (hg i j G))⟩
theorem op2_Ic {c : Int → Int → Bool} {C : Int → Int → Prop} {gd : Int → Int → D} {gv : Int → Int → V} (hc : ∀ i j, c i j = true → C i j) (hg : ∀ i j G, RpD W.C G (gd i j) (gv i j)) : Op2 W (rI C gv) (oIc c gd) := by
  intro G H x y z v u F1 F2 Q le b rx ry e q
  unfold oIc at e
  cases e1 : asI x with
  | none => rw [e1] at e; cases e
  | some i =>
    rw [e1, Option.bind_some] at e
    cases e2 : asI y with
    | none => rw [e2] at e; cases e
    | some j =>
      rw [e2, Option.bind_some] at e
      split at e
      · rename_i hcc
        cases e
        rw [asI_some e1] at rx
        rw [asI_some e2] at ry
        exact ⟨i, j, rp_int rx, rp_int ry, hc i j hcc, q _ G H Emp (Step.refl le b) (.sh' (hg i j G))⟩
      · cases e
def oAdd := oI fun i j => .int (i + j)
def oSub := oI fun i j => .int (i - j)
def cMul (i j : Int) : Bool := okI i || okI j
def oMul := oIc cMul fun i j => .int (i * j)
def oDiv := oIc (fun i j => okJ j) fun i j => .int (i / j)
def oMod := oIc (fun _ j => decide (0 < j)) fun i j => .int (i % j)
def oPow := oIc (fun i j => decide (0 ≤ j) && decide (j ≤ 1000000) && decide (i.natAbs < 2 ^ 64)) fun i j => .int (i ^ j.toNat)
def oLt := oI fun i j => .bl (decide (i < j))
def oLe := oI fun i j => .bl (decide (i ≤ j))
def oGt := oI fun i j => .bl (decide (j < i))
def oGe := oI fun i j => .bl (decide (j ≤ i))
section
variable {X : Cx} {env : En} {f g : En → RP} {a b : Expr} {pos : Pos}
theorem v_add : OpR X (binaryOp .Add) (rI0 fun i j => .int (i + j)) ∧ Op2 W (rI0 fun i j => .int (i + j)) oAdd := ⟨op_add, op2_I fun _ _ _ => .int _⟩
theorem v_sub : OpR X (binaryOp .Sub) (rI0 fun i j => .int (i - j)) ∧ Op2 W (rI0 fun i j => .int (i - j)) oSub := ⟨op_sub, op2_I fun _ _ _ => .int _⟩
theorem v_mul : OpR X (binaryOp .Mult) (rI CMul fun i j => .int (i * j)) ∧ Op2 W (rI CMul fun i j => .int (i * j)) oMul := ⟨op_mul, op2_Ic (fun i j h => by
  unfold cMul at h
  rw [Bool.or_eq_true] at h
  rcases h with h | h
  · obtain ⟨h1, h2⟩ := okI_ok h
    exact .inl ⟨by omega, by omega⟩
  · obtain ⟨h1, h2⟩ := okI_ok h
    exact .inr ⟨by omega, by omega⟩) fun _ _ _ => .int _⟩
theorem v_div : OpR X (binaryOp .FloorDiv) (rI CDiv fun i j => .int (i / j)) ∧ Op2 W (rI CDiv fun i j => .int (i / j)) oDiv := ⟨op_fdiv, op2_Ic (fun i j h => okJ_ok h) fun _ _ _ => .int _⟩
theorem v_mod : OpR X (binaryOp .Mod) (rI (fun _ j => 0 < j) fun i j => .int (i % j)) ∧ Op2 W (rI (fun _ j => 0 < j) fun i j => .int (i % j)) oMod := ⟨op_mod, op2_Ic (fun i j h => of_decide_eq_true h) fun _ _ _ => .int _⟩
theorem v_pow : OpR X (binaryOp .Pow) (rI CPow fun i j => .int (i ^ j.toNat)) ∧ Op2 W (rI CPow fun i j => .int (i ^ j.toNat)) oPow := ⟨op_pow, op2_Ic (fun i j h => by
  simp only [Bool.and_eq_true, decide_eq_true_eq] at h
  exact ⟨h.1.1, h.1.2, h.2⟩) fun _ _ _ => .int _⟩
theorem v_lt : OpR X (compareOp .Lt) (rI0 fun i j => .bl (decide (i < j))) ∧ Op2 W (rI0 fun i j => .bl (decide (i < j))) oLt := ⟨op_lt, op2_I fun _ _ _ => .bl _⟩
theorem v_le : OpR X (compareOp .LtE) (rI0 fun i j => .bl (decide (i ≤ j))) ∧ Op2 W (rI0 fun i j => .bl (decide (i ≤ j))) oLe := ⟨op_le, op2_I fun _ _ _ => .bl _⟩
theorem v_gt : OpR X (compareOp .Gt) (rI0 fun i j => .bl (decide (j < i))) ∧ Op2 W (rI0 fun i j => .bl (decide (j < i))) oGt := ⟨op_gt, op2_I fun _ _ _ => .bl _⟩
theorem v_ge : OpR X (compareOp .GtE) (rI0 fun i j => .bl (decide (j ≤ i))) ∧ Op2 W (rI0 fun i j => .bl (decide (j ≤ i))) oGe := ⟨op_ge, op2_I fun _ _ _ => .bl _⟩
end

/-! ### lists and tuples: items -/
/-- the items, and whether it is a list -/
def seqO : O → Option (Bool × List O)
  | .sh (.tup _ xs) => some (false, xs.map .sh)
  | .sh (.lst xs) => some (true, xs.map .sh)
  | .lst xs => some (true, xs)
  | _ => none
theorem get_sh {xs : List D} {i : Nat} {d : O} (h : (xs.map O.sh)[i]? = some d) : ∃ x, xs[i]? = some x ∧ d = .sh x := by
  rw [List.getElem?_map] at h
  cases q : xs[i]? with
  | none => rw [q] at h; cases h
  | some x => rw [q] at h; cases h; exact ⟨x, rfl, rfl⟩
theorem seqO_some {x : O} {b : Bool} {ys : List O} {v : V} {K : PySem.W.Frag} (le : Sub G H) (r : RpO W.C G H x v F) (h : seqO x = some (b, ys)) :
    ∃ p vs, v = .ref p ∧ (if b = true then SqL K H p vs else SqT K H p vs) ∧ Paired (fun d u => ∃ F1, RpO W.C G H d u F1) ys vs := by
  unfold seqO at h
  split at h
  · cases h
    cases r with
    | sh r n =>
      cases r with
      | tup h1 h2 h3 =>
        refine ⟨_, _, rfl, by rw [if_neg (by decide)]; exact .inl (Rd.sub le h1.rd), paired_of (by rw [List.length_map]; exact h2) fun i d u e1 e2 => ?_⟩
        obtain ⟨x, e, rfl⟩ := get_sh e1
        exact ⟨Emp, .sh' (h3 i x u e e2)⟩
  · cases h
    cases r with
    | sh r n =>
      cases r with
      | lst h1 h2 h3 =>
        refine ⟨_, _, rfl, by rw [if_pos rfl]; exact .inl (.inl (le _ _ h1)), paired_of (by rw [List.length_map]; exact h2) fun i d u e1 e2 => ?_⟩
        obtain ⟨x, e, rfl⟩ := get_sh e1
        exact ⟨Emp, .sh' (h3 i x u e e2)⟩
  · cases h
    cases r with
    | lst Fs g h1 h2 h3 h4 h5 h6 => exact ⟨_, _, rfl, by rw [if_pos rfl]; exact .inl (.inl h1), paired_of h2 fun i d u e1 e2 => ⟨Fs i, h3 i d u e1 e2⟩⟩
  · cases h
/-- all items are shared -/
def allSh : List O → Option (List D)
  | [] => some []
  | x :: xs => (asD x).bind fun d => (allSh xs).bind fun ds => some (d :: ds)
theorem allSh_some : ∀ {ys : List O} {ds : List D}, allSh ys = some ds → ys = ds.map .sh
  | [], ds, h => by cases h; rfl
  | x :: xs, ds, h => by
    rw [allSh] at h
    cases e1 : asD x with
    | none => rw [e1] at h; cases h
    | some d =>
      rw [e1, Option.bind_some] at h
      cases e2 : allSh xs with
      | none => rw [e2] at h; cases h
      | some ds' =>
        rw [e2, Option.bind_some] at h
        cases h
        rw [asD_some e1, allSh_some e2, List.map_cons]
@[simp] theorem allSh_map : ∀ ds : List D, allSh (ds.map .sh) = some ds
  | [] => rfl
  | d :: ds => by rw [List.map_cons, allSh, asD, Option.bind_some, allSh_map ds, Option.bind_some]
theorem RpDs.of {ds : List D} {vs : List V} (h : Paired (fun d u => ∃ F1, RpO W.C G H d u F1) (ds.map .sh) vs) : RpDs W G ds vs := by
  have l := h.length
  rw [List.length_map] at l
  refine paired_of l fun i d u e1 e2 => ?_
  obtain ⟨F1, r⟩ := paired_get' h i (.sh d) u (by rw [List.getElem?_map, e1]; rfl) e2
  exact rp_sh r
/-- the shared items of a list or tuple -/
def itemsD (x : O) : Option (Bool × List D) := (seqO x).bind fun p => (allSh p.2).bind fun ds => some (p.1, ds)
theorem itemsD_some {x : O} {b : Bool} {ds : List D} {v : V} {K : PySem.W.Frag} (le : Sub G H) (r : RpO W.C G H x v F) (h : itemsD x = some (b, ds)) :
    ∃ p vs, v = .ref p ∧ (if b = true then SqL K H p vs else SqT K H p vs) ∧ RpDs W G ds vs := by
  unfold itemsD at h
  cases e1 : seqO x with
  | none => rw [e1] at h; cases h
  | some q =>
    obtain ⟨b', ys⟩ := q
    rw [e1, Option.bind_some] at h
    cases e2 : allSh ys with
    | none => rw [e2] at h; cases h
    | some ds' =>
      rw [e2, Option.bind_some] at h
      cases h
      obtain ⟨p, vs, rfl, hs, hp⟩ := seqO_some (K := K) le r e1
      rw [allSh_some e2] at hp
      exact ⟨p, vs, rfl, hs, .of hp⟩
@[simp] theorem itemsD_tup (m : Bool) (xs : List D) : itemsD (.sh (.tup m xs)) = some (false, xs) := by simp [itemsD, seqO]
@[simp] theorem itemsD_lst (xs : List D) : itemsD (.sh (.lst xs)) = some (true, xs) := by simp [itemsD, seqO]
@[simp] theorem itemsD_own (xs : List D) : itemsD (.lst (xs.map .sh)) = some (true, xs) := by simp [itemsD, seqO]

/-- len -/
def oLen : List O → Option O
  | [.sh (.str s)] => if s.length ≤ lim then some (.sh (.int s.length)) else none
  | [x] => (seqO x).bind fun p => some (.sh (.int p.2.length))
  | _ => none
theorem v_len {X : Cx} : CallR X (.builtin "len") (fun xs H Q => ∃ x n, xs = [x] ∧ LenV X.K x H n ∧ Q (.int n) H) ∧ OpN W (fun xs H Q => ∃ x n, xs = [x] ∧ LenV X.K x H n ∧ Q (.int n) H) oLen := by
  refine ⟨call_len, ?_⟩
  intro G H xs z vs Q le b r e q
  unfold oLen at e
  split at e
  · rename_i s
    cases r with
    | cons r1 r2 =>
      cases r2
      obtain ⟨F1, r1⟩ := r1
      split at e
      · rename_i hs
        cases e
        exact ⟨_, s.length, rfl, by rw [rp_str r1]; exact ⟨lim_le hs, rfl⟩, q _ G H Emp (Step.refl le b) (.sh' (.int _))⟩
      · cases e
  · rename_i x _
    cases r with
    | cons r1 r2 =>
      cases r2
      obtain ⟨F1, r1⟩ := r1
      cases e1 : seqO x with
      | none => rw [e1] at e; cases e
      | some p =>
        obtain ⟨bb, ys⟩ := p
        rw [e1, Option.bind_some] at e
        cases e
        obtain ⟨p, ws, rfl, hs, hp⟩ := seqO_some (K := X.K) le r1 e1
        refine ⟨_, ys.length, rfl, ?_, q _ G H Emp (Step.refl le b) (.sh' (.int _))⟩
        cases bb with
        | true => exact .inl ⟨ws, by simpa using hs, hp.length⟩
        | false => exact .inr ⟨ws, by simpa using hs, hp.length⟩
  · cases e
/-- tuple(x) -/
def oTuple : List O → Option O
  | [.sh (.tup m xs)] => some (.sh (.tup m xs))
  | [x] => (itemsD x).bind fun p => if p.1 then some (.sh (.tup false p.2)) else none
  | _ => none
theorem v_tuple {X : Cx} : CallR X (.type "tuple") (fun xs H Q => ∃ x, xs = [x] ∧ kTup X.K x H Q) ∧ OpN W (fun xs H Q => ∃ x, xs = [x] ∧ kTup X.K x H Q) oTuple := by
  constructor
  · intro pins s σ H xs us Q I r h
    obtain ⟨x, rfl, h⟩ := h
    obtain ⟨u, rfl, rx⟩ := vals1 r
    exact rl_tuple pins s σ H x u Q I rx h
  · intro G H xs z vs Q le b r e q
    unfold oTuple at e
    split at e
    · rename_i m ys
      cases e
      cases r with
      | cons r1 r2 =>
        cases r2
        obtain ⟨F1, r1⟩ := r1
        obtain ⟨p, ws, hv, hs, hp⟩ := itemsD_some (K := X.K) le r1 (itemsD_tup m ys)
        refine ⟨_, rfl, .inr ⟨p, ws, hv, by simpa using hs, ?_⟩⟩
        rw [← hv]
        exact q _ G H Emp (Step.refl le b) (.sh' (rp_sh r1))
    · rename_i x _
      cases r with
      | cons r1 r2 =>
        cases r2
        obtain ⟨F1, r1⟩ := r1
        cases e1 : itemsD x with
        | none => rw [e1] at e; cases e
        | some p =>
          obtain ⟨bb, ds⟩ := p
          rw [e1, Option.bind_some] at e
          cases bb with
          | false => cases e
          | true =>
            cases e
            obtain ⟨p, ws, rfl, hs, hp⟩ := itemsD_some (K := X.K) le r1 e1
            refine ⟨_, rfl, .inl ⟨p, ws, rfl, by simpa using hs, fun l hl => ?_⟩⟩
            have s := step_sh (o := .tup ws) le b hl
            exact q _ _ _ Emp s (.sh' ((hp.sub s.g).tup upd_same))
    · cases e
/-- list(x): a new list -/
def oList : List O → Option O
  | [x] => (itemsD x).bind fun p => some (.lst (p.2.map .sh))
  | _ => none
theorem v_list {X : Cx} : CallR X (.type "list") (fun xs H Q => ∃ p ys, xs = [.ref p] ∧ (SqL X.K H p ys ∨ SqT X.K H p ys) ∧ ∀ l, H l = none → Q (.ref l) (upd H l (.lst ys))) ∧
    OpN W (fun xs H Q => ∃ p ys, xs = [.ref p] ∧ (SqL X.K H p ys ∨ SqT X.K H p ys) ∧ ∀ l, H l = none → Q (.ref l) (upd H l (.lst ys))) oList := by
  refine ⟨call_list_of, ?_⟩
  intro G H xs z vs Q le b r e q
  unfold oList at e
  split at e
  · rename_i x
    cases r with
    | cons r1 r2 =>
      cases r2
      obtain ⟨F1, r1⟩ := r1
      cases e1 : itemsD x with
      | none => rw [e1] at e; cases e
      | some p =>
        obtain ⟨bb, ds⟩ := p
        rw [e1, Option.bind_some] at e
        cases e
        obtain ⟨p, ws, rfl, hs, hp⟩ := itemsD_some (K := X.K) le r1 e1
        refine ⟨p, ws, rfl, ?_, fun l hl => ?_⟩
        · cases bb with
          | true => exact .inl (by simpa using hs)
          | false => exact .inr (by simpa using hs)
        · have s := step_own (o := .lst ws) le b hl
          exact q _ _ _ _ s ((hp.sub s.g).own (none_of_le le hl) upd_same)
  · cases e
/-- x[i] of shared items -/
def oIx : O → O → Option O := fun x y => (itemsD x).bind fun p => (asI y).bind fun i => (atI p.2 i).bind fun d => some (.sh d)
theorem atI_paired {α β : Type} {R : α → β → Prop} {xs : List α} {ys : List β} {i : Int} {a : α} (h : Paired R xs ys) (e : atI xs i = some a) : ∃ b, atI ys i = some b ∧ R a b := by
  unfold atI at e ⊢
  rw [← h.length]
  cases q : ixN xs.length i with
  | none => rw [q] at e; cases e
  | some j =>
    rw [q, Option.bind_some] at e
    obtain ⟨b, e', r⟩ := paired_get h e
    exact ⟨b, by rw [Option.bind_some]; exact e', r⟩
theorem v_ix {X : Cx} : IxR X (fun x y H Q => rIxL X.K x y H Q ∨ rIxT X.K x y H Q) ∧ Op2 W (fun x y H Q => rIxL X.K x y H Q ∨ rIxT X.K x y H Q) oIx := by
  refine ⟨IxR.or ix_list ix_tup, ?_⟩
  intro G H x y z v u F1 F2 Q le b rx ry e q
  unfold oIx at e
  cases e1 : itemsD x with
  | none => rw [e1] at e; cases e
  | some p =>
    obtain ⟨bb, ds⟩ := p
    rw [e1, Option.bind_some] at e
    cases e2 : asI y with
    | none => rw [e2] at e; cases e
    | some i =>
      rw [e2, Option.bind_some] at e
      cases e3 : atI ds i with
      | none => simp only [e3] at e; cases e
      | some d =>
        simp only [e3, Option.bind_some] at e
        cases e
        rw [asI_some e2] at ry
        obtain ⟨p, ws, rfl, hs, hp⟩ := itemsD_some (K := X.K) le rx e1
        obtain ⟨w, hw, rw'⟩ := atI_paired hp e3
        cases bb with
        | true => exact .inl ⟨p, ws, i, w, rfl, rp_int ry, by simpa using hs, hw, q _ G H Emp (Step.refl le b) (.sh' rw')⟩
        | false => exact .inr ⟨p, ws, i, w, rfl, rp_int ry, by simpa using hs, hw, q _ G H Emp (Step.refl le b) (.sh' rw')⟩
end
end
end FD


set_option Elab.async false
set_option linter.all false
set_option maxRecDepth 100000
/-! F3: equality, membership, slices, concatenation, dicts read. -/
namespace FD
noncomputable section
open PySem PySem.Spec PyProof.Rows L2

mutual
def toPy : D → PyData
  | .non => .none
  | .bl b => .bool b
  | .int i => .int i
  | .str s => .str s
  | .tup _ xs => .tuple (toPyL xs)
  | .lst xs => .list (toPyL xs)
  | .frl _ => .none
  | .dK _ => .none
  | .dT _ => .none
  | .ins _ _ => .none
def toPyL : List D → List PyData
  | [] => []
  | x :: xs => toPy x :: toPyL xs
end
mutual
def plainD : D → Bool
  | .non => true
  | .bl _ => true
  | .int _ => true
  | .str _ => true
  | .tup _ xs => plainDL xs
  | .lst xs => plainDL xs
  | .frl _ => false
  | .dK _ => false
  | .dT _ => false
  | .ins _ _ => false
def plainDL : List D → Bool
  | [] => true
  | x :: xs => plainD x && plainDL xs
end
theorem toPyL_map : ∀ xs : List D, toPyL xs = xs.map toPy
  | [] => by rw [toPyL, List.map_nil]
  | x :: xs => by rw [toPyL, toPyL_map xs, List.map_cons]
theorem plainDL_all : ∀ xs : List D, plainDL xs = xs.all plainD
  | [] => by rw [plainDL, List.all_nil]
  | x :: xs => by rw [plainDL, plainDL_all xs, List.all_cons]
def pyOk (d : D) : Bool := plainD d && SeqAt.shaped (toPy d)

section
variable {W : Wd} {Wx : WX} {G G' H H' : Hp} {F F' : Fp} {K : PySem.W.Frag}
theorem dpAll_of {vs : List V} {ps : List PyData} (h : Paired (fun v p => Dp K H v p) vs ps) : DpAll K H vs ps := by
  induction h with
  | nil => exact .nil
  | cons r _ ih => exact .cons r ih
theorem RpD.dp {C : Wc} {d : D} {v : V} (le : Sub G H) (h : RpD C G d v) : plainD d = true → Dp K H v (toPy d) := by
  induction h with
  | non => intro _; rw [toPy]; exact .non
  | bl b => intro _; rw [toPy]; exact .bl b
  | int i => intro _; rw [toPy]; exact .int i
  | str s => intro _; rw [toPy]; exact .str s
  | @tup _ xs _ _ r l _ ih =>
    intro p
    rw [plainD, plainDL_all, List.all_eq_true] at p
    rw [toPy, toPyL_map]
    refine .tup (.inl (Rd.sub le r.rd)) (dpAll_of (paired_of (by rw [List.length_map]; exact l.symm) fun i a b e1 e2 => ?_))
    rw [List.getElem?_map] at e2
    cases q : xs[i]? with
    | none => rw [q] at e2; cases e2
    | some x => rw [q] at e2; cases e2; exact ih i x a q e1 (p x (List.mem_of_getElem? q))
  | @lst xs _ _ r l _ ih =>
    intro p
    rw [plainD, plainDL_all, List.all_eq_true] at p
    rw [toPy, toPyL_map]
    refine .lst (.inl (.inl (le _ _ r))) (dpAll_of (paired_of (by rw [List.length_map]; exact l.symm) fun i a b e1 e2 => ?_))
    rw [List.getElem?_map] at e2
    cases q : xs[i]? with
    | none => rw [q] at e2; cases e2
    | some x => rw [q] at e2; cases e2; exact ih i x a q e1 (p x (List.mem_of_getElem? q))
  | frl _ _ _ _ => intro p; rw [plainD] at p; cases p
  | dK _ _ _ _ => intro p; rw [plainD] at p; cases p
  | dT _ _ _ _ => intro p; rw [plainD] at p; cases p
  | ins _ _ _ _ => intro p; rw [plainD] at p; cases p
theorem RpO.dp {C : Wc} {d : O} {v : V} {F : Fp} (le : Sub G H) (h : RpO C G H d v F) : plainD d.frz = true → Dp K H v (toPy d.frz) := by
  induction h with
  | sh r n => rw [frz_sh]; exact r.dp le
  | @lst xs _ _ _ Fs g hh l r dj b hF ih =>
    rw [frz_lst]
    intro p
    rw [plainD, plainDL_all, List.all_eq_true] at p
    rw [toPy, toPyL_map]
    refine .lst (.inl (.inl hh)) (dpAll_of (paired_of (by rw [List.length_map, List.length_map]; exact l.symm) fun i a b e1 e2 => ?_))
    rw [List.getElem?_map, List.getElem?_map] at e2
    cases q : xs[i]? with
    | none => rw [q] at e2; cases e2
    | some x => rw [q] at e2; cases e2; exact ih i x a q e1 (p _ (List.mem_map.mpr ⟨x, List.mem_of_getElem? q, rfl⟩))
  | dK => rw [frz_dK]; intro p; rw [plainD] at p; cases p
  | dT => rw [frz_dT]; intro p; rw [plainD] at p; cases p
  | ins => rw [frz_ins]; intro p; rw [plainD] at p; cases p

/-! ### == -/
def deq (x y : D) : Bool := PyData.eqv (toPy x) (toPy y)
def oEqW (neg : Bool) : O → O → Option O := fun x y => if pyOk x.frz && pyOk y.frz then some (.sh (.bl (if neg then !deq x.frz y.frz else deq x.frz y.frz))) else none
def oEq := oEqW false
def oNe := oEqW true
theorem eqW_core {neg : Bool} {x y z : O} {v u : V} {F1 F2 : Fp} {Q : VK} (le : Sub G H) (b : TabOk W H) (rx : RpO W.C G H x v F1) (ry : RpO W.C G H y u F2) (e : oEqW neg x y = some z)
    (q : ∀ w G' H' F', Step W G H Emp G' H' F' → RpO W.C G' H' z w F' → Q w H') : ∃ d e, Dp K H v d ∧ Dp K H u e ∧ SeqAt.shaped d = true ∧ SeqAt.shaped e = true ∧ Q (.bl (if neg then !PyData.eqv d e else PyData.eqv d e)) H := by
  unfold oEqW at e
  split at e
  · rename_i h
    cases e
    simp only [pyOk, Bool.and_eq_true] at h
    obtain ⟨⟨p1, s1⟩, p2, s2⟩ := h
    exact ⟨_, _, rx.dp le p1, ry.dp le p2, s1, s2, q _ G H Emp (Step.refl le b) (.sh' (.bl _))⟩
  · cases e
theorem v_eq {X : Cx} (hu : X.A.units + 64 < cLine) : OpR X (compareOp .Eq) (rEqD X.K) ∧ Op2 W (rEqD X.K) oEq := ⟨op_eqD hu, by
  intro G H x y z v u F1 F2 Q le b rx ry e q
  exact eqW_core (neg := false) le b rx ry e q⟩
theorem v_ne {X : Cx} (hu : X.A.units + 64 < cLine) : OpR X (compareOp .NotEq) (rNeD X.K) ∧ Op2 W (rNeD X.K) oNe := ⟨op_neD hu, by
  intro G H x y z v u F1 F2 Q le b rx ry e q
  exact eqW_core (neg := true) le b rx ry e q⟩
/-- is None -/
def isNo : O → Bool
  | .sh .non => true
  | _ => false
def oIsW (neg : Bool) : O → O → Option O := fun x y => if isNo y then some (.sh (.bl (if neg then !isNo x else isNo x))) else none
def oIs := oIsW false
def oIsNot := oIsW true
theorem isNo_iff {x : O} {v : V} {F : Fp} {C : Wc} (r : RpO C G H x v F) : isNo x = decide (v = .non) := by
  cases r with
  | sh r _ => cases r <;> simp [isNo]
  | lst => simp [isNo]
  | dK => simp [isNo]
  | dT => simp [isNo]
  | ins => simp [isNo]
theorem v_is {X : Cx} : OpR X (compareOp .Is) (fun x y H Q => y = .non ∧ Q (.bl (decide (x = .non))) H) ∧ Op2 W (fun x y H Q => y = .non ∧ Q (.bl (decide (x = .non))) H) oIs := ⟨op_isN, by
  intro G H x y z v u F1 F2 Q le b rx ry e q
  unfold oIs oIsW at e
  split at e
  · rename_i h
    cases e
    rw [isNo_iff ry] at h
    refine ⟨of_decide_eq_true h, ?_⟩
    have q' := q _ G H Emp (Step.refl le b) (.sh' (.bl _))
    rw [if_neg (by decide), isNo_iff rx] at q'
    exact q'
  · cases e⟩
theorem v_isNot {X : Cx} : OpR X (compareOp .IsNot) (fun x y H Q => y = .non ∧ Q (.bl (!decide (x = .non))) H) ∧ Op2 W (fun x y H Q => y = .non ∧ Q (.bl (!decide (x = .non))) H) oIsNot := ⟨op_notN, by
  intro G H x y z v u F1 F2 Q le b rx ry e q
  unfold oIsNot oIsW at e
  split at e
  · rename_i h
    cases e
    rw [isNo_iff ry] at h
    refine ⟨of_decide_eq_true h, ?_⟩
    have q' := q _ G H Emp (Step.refl le b) (.sh' (.bl _))
    rw [if_pos rfl, isNo_iff rx] at q'
    exact q'
  · cases e⟩

/-! ### rules joined -/
theorem OpR.or {X : Cx} {f : Value → Value → Sem Value} {r r' : R2} (h : OpR X f r) (h' : OpR X f r') : OpR X f (fun x y H Q => r x y H Q ∨ r' x y H Q) := by
  intro pins s σ H x y v u Q I rx ry q
  rcases q with q | q
  · exact h pins s σ H x y v u Q I rx ry q
  · exact h' pins s σ H x y v u Q I rx ry q
def orE (f g : O → O → Option O) : O → O → Option O := fun x y => match f x y with
  | some z => some z
  | none => g x y
theorem Op2.or {r r' : R2} {f g : O → O → Option O} (h : Op2 W r f) (h' : Op2 W r' g) : Op2 W (fun x y H Q => r x y H Q ∨ r' x y H Q) (orE f g) := by
  intro G H x y z v u F1 F2 Q le b rx ry e q
  unfold orE at e
  cases e1 : f x y with
  | some w => rw [e1] at e; cases e; exact .inl (h G H x y _ v u F1 F2 Q le b rx ry e1 q)
  | none => rw [e1] at e; exact .inr (h' G H x y _ v u F1 F2 Q le b rx ry e q)

/-! ### in, over lists, tuples, dicts -/
def rInT (K : PySem.W.Frag) (neg : Bool) : R2 := fun x y H Q => ∃ d ds, Dp K H x d ∧ (Dp K H y (.list ds) ∨ Dp K H y (.tuple ds)) ∧ SeqAt.shaped d = true ∧ SeqAt.shaped (.list ds) = true ∧ Q (.bl (if neg then !ds.any fun z => PyData.eqv z d else ds.any fun z => PyData.eqv z d)) H
theorem op_inT {X : Cx} (hu : X.A.units + 65 < cLine) : OpR X (compareOp .In) (rInT X.K false) := by
  intro pins s σ H x y v u Q I rx ry h
  obtain ⟨d, ds, hd, he, sd, se, q⟩ := h
  obtain ⟨as, r1⟩ := Dp.reads I d x v hd rx
  rcases he with he | he
  · obtain ⟨bs, r2⟩ := Dp.reads I (.list ds) y u he ry
    exact SeqAt.in_list_reads r2 r1 (SeqAt.canLay_of_shaped se) (SeqAt.canLay_of_shaped sd) (PyProof.Rows.room_in_shaped sd hu) ⟨.bl _, H, I, rfl, q⟩
  · obtain ⟨bs, r2⟩ := Dp.reads I (.tuple ds) y u he ry
    exact SeqAt.in_tuple_reads r2 r1 (SeqAt.canLay_of_shaped se) (SeqAt.canLay_of_shaped sd) (PyProof.Rows.room_in_shaped sd hu) ⟨.bl _, H, I, rfl, q⟩
theorem op_notInT {X : Cx} (hu : X.A.units + 65 < cLine) : OpR X (compareOp .NotIn) (rInT X.K true) := by
  intro pins s σ H x y v u Q I rx ry h
  obtain ⟨d, ds, hd, he, sd, se, q⟩ := h
  obtain ⟨as, r1⟩ := Dp.reads I d x v hd rx
  rcases he with he | he
  · obtain ⟨bs, r2⟩ := Dp.reads I (.list ds) y u he ry
    exact SeqAt.notIn_list_reads r2 r1 (SeqAt.canLay_of_shaped se) (SeqAt.canLay_of_shaped sd) (PyProof.Rows.room_in_shaped sd hu) ⟨.bl _, H, I, rfl, q⟩
  · obtain ⟨bs, r2⟩ := Dp.reads I (.tuple ds) y u he ry
    exact SeqAt.notIn_tuple_reads r2 r1 (SeqAt.canLay_of_shaped se) (SeqAt.canLay_of_shaped sd) (PyProof.Rows.room_in_shaped sd hu) ⟨.bl _, H, I, rfl, q⟩
/-- the items of plain data -/
def itemsP : D → Option (List D)
  | .tup _ xs => some xs
  | .lst xs => some xs
  | _ => none
def oInT (neg : Bool) : O → O → Option O := fun x y => (itemsP y.frz).bind fun ys => if pyOk x.frz && pyOk (.lst ys) then some (.sh (.bl (if neg then !ys.any fun z => deq z x.frz else ys.any fun z => deq z x.frz))) else none
theorem any_deq (ys : List D) (d : D) : ((toPyL ys).any fun z => PyData.eqv z (toPy d)) = ys.any fun z => deq z d := by
  rw [toPyL_map, List.any_map]
  rfl
theorem op2_inT {neg : Bool} : Op2 W (rInT K neg) (oInT neg) := by
  intro G H x y z v u F1 F2 Q le b rx ry e q
  unfold oInT at e
  cases e1 : itemsP y.frz with
  | none => rw [e1] at e; cases e
  | some ys =>
    rw [e1, Option.bind_some] at e
    split at e
    · rename_i h
      cases e
      simp only [pyOk, Bool.and_eq_true] at h
      obtain ⟨⟨p1, s1⟩, p2, s2⟩ := h
      have hpy : toPy (.lst ys) = .list (toPyL ys) := by rw [toPy]
      rw [hpy] at s2
      refine ⟨_, toPyL ys, rx.dp le p1, ?_, s1, s2, ?_⟩
      · unfold itemsP at e1
        split at e1
        · rename_i m xs e2
          cases e1
          have p3 : plainD y.frz = true := by rw [e2, plainD]; rw [plainD] at p2; exact p2
          have r := ry.dp (K := K) le p3
          rw [e2, toPy] at r
          exact .inr r
        · rename_i xs e2
          cases e1
          have p3 : plainD y.frz = true := by rw [e2]; exact p2
          have r := ry.dp (K := K) le p3
          rw [e2, toPy] at r
          exact .inl r
        · cases e1
      · rw [any_deq]
        exact q _ G H Emp (Step.refl le b) (.sh' (.bl _))
    · cases e

/-! ### dicts, read -/
def keyO : O → Option Key
  | .sh (.int i) => some (.inl i)
  | .sh (.str s) => some (.inr s)
  | _ => none
def keyD : D → Option Key
  | .int i => some (.inl i)
  | .str s => some (.inr s)
  | _ => none
def keysD : List D → Option (List Key)
  | [] => some []
  | d :: ds => (keyD d).bind fun k => (keysD ds).bind fun ks => some (k :: ks)
/-- a tuple that may be a key -/
def keyT : O → Option (List Key)
  | .sh (.tup false xs) => keysD xs
  | _ => none
def look {κ α : Type} [DecidableEq κ] (kvs : List (κ × α)) (k : κ) : Option α := (kvs.find? fun kv => decide (kv.1 = k)).map (·.2)
theorem keyO_some {x : O} {k : Key} {v : V} {F : Fp} {C : Wc} (r : RpO C G H x v F) (h : keyO x = some k) : v = kV k := by
  unfold keyO at h
  split at h
  · cases h; exact rp_int r
  · cases h; exact rp_str r
  · cases h
theorem keyD_some {x : D} {k : Key} {v : V} {C : Wc} (r : RpD C G x v) (h : keyD x = some k) : v = kV k := by
  unfold keyD at h
  split at h
  · cases h; cases r; rfl
  · cases h; cases r; rfl
  · cases h
theorem keysD_some {C : Wc} : ∀ {xs : List D} {ks : List Key} {vs : List V}, Paired (fun d v => RpD C G d v) xs vs → keysD xs = some ks → vs = ks.map kV
  | [], ks, _, .nil, h => by cases h; rfl
  | d :: ds, ks, v :: vs, .cons r rs, h => by
    rw [keysD] at h
    cases e1 : keyD d with
    | none => rw [e1] at h; cases h
    | some k =>
      rw [e1, Option.bind_some] at h
      cases e2 : keysD ds with
      | none => rw [e2] at h; cases h
      | some ks' =>
        rw [e2, Option.bind_some] at h
        cases h
        rw [keyD_some r e1, keysD_some rs e2, List.map_cons]
theorem keyT_some {x : O} {ks : List Key} {v : V} {F : Fp} {C : Wc} (le : Sub G H) (r : RpO C G H x v F) (h : keyT x = some ks) : ∃ b, v = .ref b ∧ H b = some (.tup (ks.map kV)) := by
  unfold keyT at h
  split at h
  · have r' := rp_sh r
    cases r' with
    | tup r1 l r2 =>
      refine ⟨_, rfl, ?_⟩
      rw [← keysD_some (paired_of l r2) h]
      exact le _ _ r1
  · cases h
/-- a dict's entry -/
def dGet : O → O → Option (Option O)
  | .sh (.dK kvs), y => (keyO y).bind fun k => some ((look kvs k).map .sh)
  | .dK kvs, y => (keyO y).bind fun k => some (look kvs k)
  | .sh (.dT kvs), y => (keyT y).bind fun k => some ((look kvs k).map .sh)
  | .dT kvs, y => (keyT y).bind fun k => some (look kvs k)
  | _, _ => none
theorem look_rel {κ α β : Type} [DecidableEq κ] {R : α → β → Prop} : ∀ {xs : List (κ × α)} {ys : List (κ × β)} {k : κ}, xs.map (·.1) = ys.map (·.1) → Paired R (xs.map (·.2)) (ys.map (·.2)) →
    (look xs k = none ∧ look ys k = none) ∨ ∃ a b, look xs k = some a ∧ look ys k = some b ∧ R a b
  | [], [], _, _, _ => .inl ⟨rfl, rfl⟩
  | [], _ :: _, _, h, _ => by simp at h
  | _ :: _, [], _, h, _ => by simp at h
  | (k1, a) :: xs, (k2, b) :: ys, k, h, .cons r rs => by
    simp only [List.map_cons, List.cons.injEq] at h
    obtain ⟨rfl, h⟩ := h
    by_cases e : k1 = k
    · exact .inr ⟨a, b, by simp [look, e], by simp [look, e], r⟩
    · have h1 : look ((k1, a) :: xs) k = look xs k := by simp [look, e]
      have h2 : look ((k1, b) :: ys) k = look ys k := by simp [look, e]
      rw [h1, h2]
      exact look_rel h rs
theorem valV_look (kvs : List (Key × V)) (k : Key) : valV kvs k = look kvs k := rfl
theorem dGet_some {x y : O} {r : Option O} {v u : V} {F1 F2 : Fp} {C : Wc} (le : Sub G H) (rx : RpO C G H x v F1) (ry : RpO C G H y u F2) (h : dGet x y = some r) :
    ∃ a o, v = .ref a ∧ DGet H a u o ∧ ((r = none ∧ o = none) ∨ ∃ d w F, r = some d ∧ o = some w ∧ RpO C G H d w F) := by
  unfold dGet at h
  split at h
  · rename_i kvs
    cases e1 : keyO y with
    | none => rw [e1] at h; cases h
    | some k =>
      rw [e1, Option.bind_some] at h
      cases h
      cases rx with
      | sh rx _ =>
        cases rx with
        | dK h1 h2 h3 =>
          rw [keyO_some ry e1]
          refine ⟨_, _, rfl, .inl ⟨_, k, .inl (le _ _ h1), rfl, rfl⟩, ?_⟩
          rcases look_rel (k := k) h2 (paired_of (by simpa using congrArg List.length h2) h3) with ⟨q1, q2⟩ | ⟨d, w, q1, q2, q3⟩
          · exact .inl ⟨by rw [q1]; rfl, by rw [valV_look]; exact q2⟩
          · exact .inr ⟨.sh d, w, Emp, by rw [q1]; rfl, by rw [valV_look]; exact q2, .sh q3 fun _ h => h⟩
  · rename_i kvs
    cases e1 : keyO y with
    | none => rw [e1] at h; cases h
    | some k =>
      rw [e1, Option.bind_some] at h
      cases h
      cases rx with
      | dK Fs g h1 h2 h3 h4 h5 h6 =>
        rw [keyO_some ry e1]
        refine ⟨_, _, rfl, .inl ⟨_, k, .inl h1, rfl, rfl⟩, ?_⟩
        rcases look_rel (R := fun d w => ∃ F, RpO C G H d w F) (k := k) h2 (paired_of (by simpa using congrArg List.length h2) fun i a b e1 e2 => ⟨Fs i, h3 i a b e1 e2⟩) with ⟨q1, q2⟩ | ⟨d, w, q1, q2, F, q3⟩
        · exact .inl ⟨q1, by rw [valV_look]; exact q2⟩
        · exact .inr ⟨d, w, F, q1, by rw [valV_look]; exact q2, q3⟩
  · rename_i kvs
    cases e1 : keyT y with
    | none => rw [e1] at h; cases h
    | some k =>
      rw [e1, Option.bind_some] at h
      cases h
      cases rx with
      | sh rx _ =>
        cases rx with
        | dT h1 h2 h3 =>
          obtain ⟨b, rfl, hb⟩ := keyT_some le ry e1
          refine ⟨_, _, rfl, .inr ⟨_, k, b, .inl (le _ _ h1), rfl, hb, rfl⟩, ?_⟩
          rcases look_rel (k := k) h2 (paired_of (by simpa using congrArg List.length h2) h3) with ⟨q1, q2⟩ | ⟨d, w, q1, q2, q3⟩
          · exact .inl ⟨by rw [q1]; rfl, q2⟩
          · exact .inr ⟨.sh d, w, Emp, by rw [q1]; rfl, q2, .sh q3 fun _ h => h⟩
  · rename_i kvs
    cases e1 : keyT y with
    | none => rw [e1] at h; cases h
    | some k =>
      rw [e1, Option.bind_some] at h
      cases h
      cases rx with
      | dT Fs g h1 h2 h3 h4 h5 h6 =>
        obtain ⟨b, rfl, hb⟩ := keyT_some le ry e1
        refine ⟨_, _, rfl, .inr ⟨_, k, b, .inl h1, rfl, hb, rfl⟩, ?_⟩
        rcases look_rel (R := fun d w => ∃ F, RpO C G H d w F) (k := k) h2 (paired_of (by simpa using congrArg List.length h2) fun i a b e1 e2 => ⟨Fs i, h3 i a b e1 e2⟩) with ⟨q1, q2⟩ | ⟨d, w, q1, q2, F, q3⟩
        · exact .inl ⟨q1, q2⟩
        · exact .inr ⟨d, w, F, q1, q2, q3⟩
  · cases h
def rDIn (neg : Bool) : R2 := fun y x H Q => (∃ a o, x = .ref a ∧ DGet H a y o ∧ Q (.bl (if neg then !o.isSome else o.isSome)) H) ∨ ∃ a kvs, x = .ref a ∧ y = .non ∧ Rd H a (.dK kvs) ∧ Q (.bl neg) H
theorem op_dIn {X : Cx} (hu : X.A.units + 1 < cLine) : OpR X (compareOp .In) (rDIn false) := by
  intro pins s σ H y x iv u Q I ry rx q
  rcases q with ⟨a, ov, ex, g, q2⟩ | ⟨a, kvs, ex, ey, g, q2⟩
  · subst ex
    obtain rfl : u = Value.ref a := rx
    exact d_in hu I g ry fun s3 I3 => ⟨.bl ov.isSome, H, I3, rfl, q2⟩
  · subst ex ey
    obtain rfl : u = Value.ref a := rx
    obtain rfl : iv = Value.none := ry
    exact d_inNone I g fun s3 I3 => ⟨.bl false, H, I3, rfl, q2⟩
theorem op_dNotIn {X : Cx} (hu : X.A.units + 1 < cLine) : OpR X (compareOp .NotIn) (rDIn true) := by
  intro pins s σ H y x iv u Q I ry rx q
  rcases q with ⟨a, ov, ex, g, q2⟩ | ⟨a, kvs, ex, ey, g, q2⟩
  · subst ex
    obtain rfl : u = Value.ref a := rx
    exact d_notIn hu I g ry fun s3 I3 => ⟨.bl (!ov.isSome), H, I3, rfl, q2⟩
  · subst ex ey
    obtain rfl : u = Value.ref a := rx
    obtain rfl : iv = Value.none := ry
    exact d_notInNone I g fun s3 I3 => ⟨.bl true, H, I3, rfl, q2⟩
def isDK : O → Bool
  | .sh (.dK _) => true
  | .dK _ => true
  | _ => false
def oInD (neg : Bool) : O → O → Option O := fun y x => match dGet x y with
  | some o => some (.sh (.bl (if neg then !o.isSome else o.isSome)))
  | none => if isNo y && isDK x then some (.sh (.bl neg)) else none
theorem op2_inD {neg : Bool} : Op2 W (rDIn neg) (oInD neg) := by
  intro G H y x z u v F1 F2 Q le b ry rx e q
  unfold oInD at e
  split at e
  · rename_i o e1
    cases e
    obtain ⟨a, o', rfl, g, hr⟩ := dGet_some le rx ry e1
    refine .inl ⟨a, o', rfl, g, ?_⟩
    have e2 : o'.isSome = o.isSome := by
      rcases hr with ⟨rfl, rfl⟩ | ⟨d, w, F, rfl, rfl, _⟩ <;> rfl
    rw [e2]
    exact q _ G H Emp (Step.refl le b) (.sh' (.bl _))
  · split at e
    · rename_i h
      cases e
      simp only [Bool.and_eq_true] at h
      obtain ⟨h1, h2⟩ := h
      rw [isNo_iff ry] at h1
      unfold isDK at h2
      split at h2
      · cases rx with
        | sh rx _ =>
          cases rx with
          | dK k1 k2 k3 => exact .inr ⟨_, _, rfl, of_decide_eq_true h1, .inl (le _ _ k1), q _ G H Emp (Step.refl le b) (.sh' (.bl _))⟩
      · cases rx with
        | dK Fs g k1 k2 k3 k4 k5 k6 => exact .inr ⟨_, _, rfl, of_decide_eq_true h1, .inl k1, q _ G H Emp (Step.refl le b) (.sh' (.bl _))⟩
      · cases h2
    · cases e
def oIn := orE (oInT false) (oInD false)
def oNotIn := orE (oInT true) (oInD true)
theorem v_in {X : Cx} (hu : X.A.units + 65 < cLine) : OpR X (compareOp .In) (fun x y H Q => rInT X.K false x y H Q ∨ rDIn false x y H Q) ∧ Op2 W (fun x y H Q => rInT X.K false x y H Q ∨ rDIn false x y H Q) oIn :=
  ⟨OpR.or (op_inT hu) (op_dIn (by omega)), Op2.or op2_inT op2_inD⟩
theorem v_notIn {X : Cx} (hu : X.A.units + 65 < cLine) : OpR X (compareOp .NotIn) (fun x y H Q => rInT X.K true x y H Q ∨ rDIn true x y H Q) ∧ Op2 W (fun x y H Q => rInT X.K true x y H Q ∨ rDIn true x y H Q) oNotIn :=
  ⟨OpR.or (op_notInT hu) (op_dNotIn (by omega)), Op2.or op2_inT op2_inD⟩
/-- d[k] -/
def rIxD : R2 := fun x y H Q => ∃ a w, x = .ref a ∧ DGet H a y (some w) ∧ Q w H
theorem ix_dict {X : Cx} (hu : X.A.units + 1 < cLine) : IxR X rIxD := by
  intro value slice pins s σ H x y v u Q I rx ry h hs
  obtain ⟨a, w, rfl, g, q⟩ := h
  cases rx
  exact tail_any (dict_typeIs I g) PySem.F.slot_dict_getitem.lookup (d_getItem hu I g ry fun w' s3 I3 rw' => ⟨w, H, I3, rw', q⟩) hs
def oIxD : O → O → Option O := fun x y => (dGet x y).bind fun o => o.bind asSh
theorem op2_ixD : Op2 W rIxD oIxD := by
  intro G H x y z v u F1 F2 Q le b rx ry e q
  unfold oIxD at e
  cases e1 : dGet x y with
  | none => rw [e1] at e; cases e
  | some o =>
    rw [e1, Option.bind_some] at e
    obtain ⟨a, o', rfl, g, hr⟩ := dGet_some le rx ry e1
    rcases hr with ⟨rfl, rfl⟩ | ⟨d, w, F, rfl, rfl, r⟩
    · cases e
    · rw [Option.bind_some] at e
      unfold asSh at e
      split at e
      · cases e
        exact ⟨a, w, rfl, g, q _ G H Emp (Step.refl le b) (.sh' (rp_sh r))⟩
      · cases e
def oAt := orE oIx oIxD
theorem v_at {X : Cx} (hu : X.A.units + 1 < cLine) : IxR X (fun x y H Q => (rIxL X.K x y H Q ∨ rIxT X.K x y H Q) ∨ rIxD x y H Q) ∧ Op2 W (fun x y H Q => (rIxL X.K x y H Q ∨ rIxT X.K x y H Q) ∨ rIxD x y H Q) oAt :=
  ⟨IxR.or (IxR.or ix_list ix_tup) (ix_dict hu), Op2.or (v_ix (X := X)).2 op2_ixD⟩

/-! ### + and * -/
def catT : O → O → Option O
  | .sh (.tup m xs), .sh (.tup m' ys) => if xs.length + ys.length ≤ lim then some (.sh (if xs.isEmpty then .tup m' ys else if ys.isEmpty then .tup m xs else .tup false (xs ++ ys))) else none
  | _, _ => none
theorem RpDs.append {xs ys : List D} {vs us : List V} (h : RpDs W G xs vs) (h' : RpDs W G ys us) : RpDs W G (xs ++ ys) (vs ++ us) := by
  induction h with
  | nil => exact h'
  | cons r _ ih => exact .cons r ih
theorem op2_catT : Op2 W (rCatA K) catT := by
  intro G H x y z v u F1 F2 Q le b rx ry e q
  unfold catT at e
  split at e
  · rename_i m xs m' ys
    split at e
    · rename_i hl
      cases e
      have rx' := rp_sh rx
      have ry' := rp_sh ry
      cases rx with
      | sh rx _ =>
        cases ry with
        | sh ry _ =>
          cases rx with
          | tup h1 h2 h3 =>
            cases ry with
            | tup k1 k2 k3 =>
              refine ⟨_, _, _, _, rfl, rfl, .inl (Rd.sub le h1.rd), .inl (Rd.sub le k1.rd), by have := lim_le hl; omega, fun ex => ?_, fun ex ey => ?_, fun ex ey p hp => ?_⟩
              · have e1 : xs.isEmpty = true := by
                  subst ex
                  cases xs with
                  | nil => rfl
                  | cons _ _ => simp at h2
                rw [e1, if_pos rfl] at q
                exact q _ G H Emp (Step.refl le b) (.sh' ry')
              · have e1 : xs.isEmpty = false := by
                  cases xs with
                  | nil =>
                    simp only [List.length_nil] at h2
                    exact absurd (List.eq_nil_of_length_eq_zero h2.symm) ex
                  | cons _ _ => rfl
                have e2 : ys.isEmpty = true := by
                  subst ey
                  cases ys with
                  | nil => rfl
                  | cons _ _ => simp at k2
                rw [e1, e2, if_neg (by decide), if_pos rfl] at q
                exact q _ G H Emp (Step.refl le b) (.sh' rx')
              · have e1 : xs.isEmpty = false := by
                  cases xs with
                  | nil =>
                    simp only [List.length_nil] at h2
                    exact absurd (List.eq_nil_of_length_eq_zero h2.symm) ex
                  | cons _ _ => rfl
                have e2 : ys.isEmpty = false := by
                  cases ys with
                  | nil =>
                    simp only [List.length_nil] at k2
                    exact absurd (List.eq_nil_of_length_eq_zero k2.symm) ey
                  | cons _ _ => rfl
                rw [e1, e2, if_neg (by decide), if_neg (by decide)] at q
                rename_i vs1 _ vs2
                have s := step_sh (o := .tup (vs1 ++ vs2)) le b hp
                have r1 : RpDs W G xs vs1 := paired_of h2 h3
                have r2 : RpDs W G ys vs2 := paired_of k2 k3
                exact q _ _ _ Emp s (.sh' (((r1.append r2).sub s.g).tup upd_same))
    · cases e
  · cases e
/-- a list that stands by itself -/
def lstO : O → Option (List D)
  | .sh (.lst xs) => some xs
  | .lst xs => allSh xs
  | _ => none
theorem lstO_some {x : O} {xs : List D} {v : V} {F : Fp} (le : Sub G H) (r : RpO W.C G H x v F) (h : lstO x = some xs) : ∃ p vs, v = .ref p ∧ H p = some (.lst vs) ∧ RpDs W G xs vs := by
  unfold lstO at h
  split at h
  · cases h
    cases r with
    | sh r _ =>
      cases r with
      | lst h1 h2 h3 => exact ⟨_, _, rfl, le _ _ h1, paired_of h2 h3⟩
  · rename_i ys
    have e := allSh_some h
    cases r with
    | lst Fs g h1 h2 h3 h4 h5 h6 =>
      refine ⟨_, _, rfl, h1, RpDs.of (H := H) ?_⟩
      rw [← e]
      exact paired_of h2 fun i d u e1 e2 => ⟨Fs i, h3 i d u e1 e2⟩
  · cases h
def catL : O → O → Option O := fun x y => (lstO x).bind fun xs => (lstO y).bind fun ys => if xs.length + ys.length ≤ lim then some (.lst ((xs ++ ys).map .sh)) else none
theorem op2_catL : Op2 W rCat catL := by
  intro G H x y z v u F1 F2 Q le b rx ry e q
  unfold catL at e
  cases e1 : lstO x with
  | none => rw [e1] at e; cases e
  | some xs =>
    rw [e1, Option.bind_some] at e
    cases e2 : lstO y with
    | none => rw [e2] at e; cases e
    | some ys =>
      rw [e2, Option.bind_some] at e
      split at e
      · rename_i hl
        cases e
        obtain ⟨p, vs, rfl, h1, r1⟩ := lstO_some le rx e1
        obtain ⟨p', us, rfl, h2, r2⟩ := lstO_some le ry e2
        refine ⟨p, p', vs, us, rfl, rfl, h1, h2, by rw [← r1.length, ← r2.length]; exact lim_le hl, fun l hl => ?_⟩
        have s := step_own (o := .lst (vs ++ us)) le b hl
        exact q _ _ _ _ s (((r1.append r2).sub s.g).own (none_of_le le hl) upd_same)
      · cases e
def catS : O → O → Option O
  | .sh (.str x), .sh (.str y) => if x.length + y.length ≤ lim then some (.sh (.str (x ++ y))) else none
  | _, _ => none
theorem op2_catS : Op2 W (fun x y H Q => ∃ i j, x = .str i ∧ y = .str j ∧ i.length + j.length ≤ sizeLine ∧ Q (.str (i ++ j)) H) catS := by
  intro G H x y z v u F1 F2 Q le b rx ry e q
  unfold catS at e
  split at e
  · split at e
    · rename_i hl
      cases e
      exact ⟨_, _, rp_str rx, rp_str ry, lim_le hl, q _ G H Emp (Step.refl le b) (.sh' (.str _))⟩
    · cases e
  · cases e
def oPlus := orE oAdd (orE catT (orE catL catS))
theorem v_plus {X : Cx} : OpR X (binaryOp .Add) (fun x y H Q => rI0 (fun i j => .int (i + j)) x y H Q ∨ (rCatA X.K x y H Q ∨ (rCat x y H Q ∨ ∃ i j, x = .str i ∧ y = .str j ∧ i.length + j.length ≤ sizeLine ∧ Q (.str (i ++ j)) H))) ∧
    Op2 W (fun x y H Q => rI0 (fun i j => .int (i + j)) x y H Q ∨ (rCatA X.K x y H Q ∨ (rCat x y H Q ∨ ∃ i j, x = .str i ∧ y = .str j ∧ i.length + j.length ≤ sizeLine ∧ Q (.str (i ++ j)) H))) oPlus :=
  ⟨OpR.or op_add (OpR.or op_catA (OpR.or op_cat op_add_str)), Op2.or (op2_I fun _ _ _ => .int _) (Op2.or op2_catT (Op2.or op2_catL op2_catS))⟩
def repL : O → O → Option O := fun x y => (lstO x).bind fun xs => (asI y).bind fun k => if okI k && decide (xs.length * k.toNat ≤ lim) then some (.lst (((List.replicate k.toNat xs).flatten).map .sh)) else none
theorem RpDs.rep {xs : List D} {vs : List V} (h : RpDs W G xs vs) : ∀ n : Nat, RpDs W G (List.replicate n xs).flatten (List.replicate n vs).flatten
  | 0 => .nil
  | n + 1 => by
    rw [List.replicate_succ, List.replicate_succ, List.flatten_cons, List.flatten_cons]
    exact h.append (h.rep n)
theorem op2_repL : Op2 W rRep repL := by
  intro G H x y z v u F1 F2 Q le b rx ry e q
  unfold repL at e
  cases e1 : lstO x with
  | none => rw [e1] at e; cases e
  | some xs =>
    rw [e1, Option.bind_some] at e
    cases e2 : asI y with
    | none => rw [e2] at e; cases e
    | some k =>
      rw [e2, Option.bind_some] at e
      split at e
      · rename_i hc
        cases e
        rw [Bool.and_eq_true] at hc
        obtain ⟨c0, c3⟩ := hc
        obtain ⟨c1, c2⟩ := okI_ok c0
        have c3 := of_decide_eq_true c3
        obtain ⟨p, vs, rfl, h1, r1⟩ := lstO_some le rx e1
        rw [asI_some e2] at ry
        refine ⟨p, k, vs, rfl, rp_int ry, h1, by omega, by omega, by rw [← r1.length]; exact lim_le c3, fun l hl => ?_⟩
        have s := step_own (o := .lst (List.replicate k.toNat vs).flatten) le b hl
        exact q _ _ _ _ s (((r1.rep _).sub s.g).own (none_of_le le hl) upd_same)
      · cases e
def oStar := orE oMul repL
theorem v_star {X : Cx} : OpR X (binaryOp .Mult) (fun x y H Q => rI CMul (fun i j => .int (i * j)) x y H Q ∨ rRep x y H Q) ∧ Op2 W (fun x y H Q => rI CMul (fun i j => .int (i * j)) x y H Q ∨ rRep x y H Q) oStar :=
  ⟨OpR.or op_mul op_rep, Op2.or (v_mul (X := X)).2 op2_repL⟩
end
end
end FD


set_option Elab.async false
set_option linter.all false
set_option maxRecDepth 100000
/-! F4: statements: blocks, names stored, return, if, while, for. -/
namespace FD
noncomputable section
open PySem PySem.Spec L2

inductive RS where
  | nx (e : En) | rt (d : O) (e : En) | bk (e : En) | ct (e : En) | exc (c : Nat) (e : En) | stk

/-- the protected slots are as they were -/
def Pr (pr : List Nat) (σ σ' : St) : Prop := σ'.length = σ.length ∧ ∀ i ∈ pr, σ'[i]? = σ[i]?
theorem Pr.refl (pr : List Nat) (σ : St) : Pr pr σ σ := ⟨rfl, fun _ _ => rfl⟩
theorem Pr.trans {pr : List Nat} {a b c : St} (h : Pr pr a b) (h' : Pr pr b c) : Pr pr a c := ⟨h'.1.trans h.1, fun i hi => (h'.2 i hi).trans (h.2 i hi)⟩
theorem Pr.set {pr : List Nat} {σ : St} {i : Nat} {v : Option V} (h : i ∉ pr) : Pr pr σ (σ.set i v) := ⟨List.length_set, fun j hj => by
  rw [List.getElem?_set_ne]
  rintro rfl
  exact h hj⟩

section
variable (W : Wd) (Wx : WX) (pr : List Nat)
def tS (env : En) (r : RS) : TS := fun D σ H => ∃ G Fs, Sim W G env σ H Fs ∧ match r with
  | .nx env' => ∀ σ' G' H' Fs', Step W G H (All Fs) G' H' (All Fs') → Sim W G' env' σ' H' Fs' → Pr pr σ σ' → D.nx σ' H'
  | .rt d env' => ∀ v σ' G' H' F1 Fs', Step W G H (All Fs) G' H' (fun a => F1 a ∨ All Fs' a) → RpO W.C G' H' d v F1 → Sim W G' env' σ' H' Fs' → (∀ i a, F1 a → ¬ Fs' i a) → Pr pr σ σ' → D.rt v H'
  | .bk env' => ∀ σ' G' H' Fs', Step W G H (All Fs) G' H' (All Fs') → Sim W G' env' σ' H' Fs' → Pr pr σ σ' → D.bk σ' H'
  | .ct env' => ∀ σ' G' H' Fs', Step W G H (All Fs) G' H' (All Fs') → Sim W G' env' σ' H' Fs' → Pr pr σ σ' → D.ct σ' H'
  | .exc c env' => ∀ σ' G' H' Fs', Step W G H (All Fs) G' H' (All Fs') → Sim W G' env' σ' H' Fs' → Pr pr σ σ' → Wx (.ref (W.C.cls c)) none σ' H'
  | .stk => False
end
def SS (X : Cx) (W : Wd) (Wx : WX) (pr : List Nat) (g : En → RS) (st : Stmt) : Prop := ∀ env, PS X st (tS W Wx pr env (g env))
def SSs (X : Cx) (W : Wd) (Wx : WX) (pr : List Nat) (g : En → RS) (st : List Stmt) : Prop := ∀ env, PSs X st (tS W Wx pr env (g env))

section
variable {X : Cx} {W : Wd} {Wx : WX} {pr : List Nat} {G G' H H' : Hp} {env env' : En} {σ σ' : St} {Fs Fs' : Nat → Fp} {F F' : Fp}
theorem SE.any {f : En → RE} {e : Expr} (h : SE X W Wx f e) : PE X e (fun σ H Q => ∃ env, tE W Wx env (f env) σ H Q) := ⟨fun pins s σ H Q I ⟨env, q⟩ => (h env).run pins s σ H Q I q⟩
theorem ST.any {f : En → RB} {e : Expr} (h : ST X W Wx f e) : PT X e (fun σ H Q => ∃ env, tT W Wx env (f env) σ H Q) := ⟨fun pins s σ H Q I ⟨env, q⟩ => (h env).run pins s σ H Q I q⟩
theorem SU.any {f : En → R En (Bool × En)} {e : Expr} (h : SU X W Wx f e) : PT X e (fun σ H Q => ∃ env, tU W Wx env (f env) σ H Q) := ⟨fun pins s σ H Q I ⟨env, q⟩ => (h env).run pins s σ H Q I q⟩
theorem SSs.any {g : En → RS} {st : List Stmt} (h : SSs X W Wx pr g st) : PSs X st (fun D σ H => ∃ env, tS W Wx pr env (g env) D σ H) := ⟨fun pins s σ H D I ⟨env, q⟩ => (h env).run pins s σ H D I q⟩
/-- a pure test as one that may change -/
def uT (f : En → RB) : En → R En (Bool × En) := fun env => match f env with
  | .ok b => .ok (b, env)
  | .exc c _ => .exc c env
  | .stk => .stk
theorem Step.all (s : Step W G H Emp G' H' F') : Step W G H (All Fs) G' H' (All Fs) := s.wide (fun _ h => h.elim) fun _ h => .inl h
theorem ST.su {f : En → RB} {e : Expr} (h : ST X W Wx f e) : SU X W Wx (uT f) e := fun env => (h env).imp fun σ H Q => by
  rintro ⟨G, Fs, S, q⟩
  refine ⟨G, Fs, S, ?_⟩
  unfold uT at q
  cases e1 : f env with
  | stk => rw [e1] at q; exact q
  | exc c u => rw [e1] at q; exact fun G' H' s => q G' H' Fs s.all (S.step0 s)
  | ok b => rw [e1] at q; exact fun G' H' s => q G' H' Fs s.all (S.step0 s)

/-- what follows a step already taken -/
theorem tS.after {r : RS} {D : Ends} (s : Step W G H (All Fs) G' H' (All Fs')) (S' : Sim W G' env' σ' H' Fs') (p : Pr pr σ σ') (S : Sim W G env σ H Fs)
    (q : match r with
      | .nx env' => ∀ σ' G' H' Fs', Step W G H (All Fs) G' H' (All Fs') → Sim W G' env' σ' H' Fs' → Pr pr σ σ' → D.nx σ' H'
      | .rt d env' => ∀ v σ' G' H' F1 Fs', Step W G H (All Fs) G' H' (fun a => F1 a ∨ All Fs' a) → RpO W.C G' H' d v F1 → Sim W G' env' σ' H' Fs' → (∀ i a, F1 a → ¬ Fs' i a) → Pr pr σ σ' → D.rt v H'
      | .bk env' => ∀ σ' G' H' Fs', Step W G H (All Fs) G' H' (All Fs') → Sim W G' env' σ' H' Fs' → Pr pr σ σ' → D.bk σ' H'
      | .ct env' => ∀ σ' G' H' Fs', Step W G H (All Fs) G' H' (All Fs') → Sim W G' env' σ' H' Fs' → Pr pr σ σ' → D.ct σ' H'
      | .exc c env' => ∀ σ' G' H' Fs', Step W G H (All Fs) G' H' (All Fs') → Sim W G' env' σ' H' Fs' → Pr pr σ σ' → Wx (.ref (W.C.cls c)) none σ' H'
      | .stk => False) : tS W Wx pr env' r D σ' H' := by
  refine ⟨G', Fs', S', ?_⟩
  cases r with
  | nx e => exact fun σ2 G2 H2 Fs2 s2 S2 p2 => q σ2 G2 H2 Fs2 (s.trans s2) S2 (p.trans p2)
  | rt d e => exact fun v σ2 G2 H2 F1 Fs2 s2 r2 S2 dj p2 => q v σ2 G2 H2 F1 Fs2 (s.trans s2) r2 S2 dj (p.trans p2)
  | bk e => exact fun σ2 G2 H2 Fs2 s2 S2 p2 => q σ2 G2 H2 Fs2 (s.trans s2) S2 (p.trans p2)
  | ct e => exact fun σ2 G2 H2 Fs2 s2 S2 p2 => q σ2 G2 H2 Fs2 (s.trans s2) S2 (p.trans p2)
  | exc c e => exact fun σ2 G2 H2 Fs2 s2 S2 p2 => q σ2 G2 H2 Fs2 (s.trans s2) S2 (p.trans p2)
  | stk => exact q

/-! ### blocks -/
def sNil : En → RS := fun env => .nx env
def sCons (g h : En → RS) : En → RS := fun env => match g env with
  | .nx e => h e
  | r => r
theorem SSs_nil : SSs X W Wx pr sNil [] := fun env => pss_nil.imp fun D σ H => by
  rintro ⟨G, Fs, S, q⟩
  exact q σ G H Fs S.refl S (Pr.refl _ _)
theorem SSs_cons {g h : En → RS} {st : Stmt} {rest : List Stmt} (h1 : SS X W Wx pr g st) (h2 : SSs X W Wx pr h rest) : SSs X W Wx pr (sCons g h) (st :: rest) := fun env => by
  refine (pss_cons (h1 env) h2.any).imp fun D σ H => ?_
  rintro ⟨G, Fs, S, q⟩
  refine ⟨G, Fs, S, ?_⟩
  unfold sCons at q
  cases e1 : g env with
  | nx e =>
    rw [e1] at q
    exact fun σ' G' H' Fs' s S' p => ⟨e, tS.after s S' p S q⟩
  | rt d e => rw [e1] at q; exact q
  | bk e => rw [e1] at q; exact q
  | ct e => rw [e1] at q; exact q
  | exc c e => rw [e1] at q; exact q
  | stk => rw [e1] at q; exact q

/-! ### names stored -/
theorem Sim.set {d : O} {v : V} {F1 : Fp} {i : Nat} (S : Sim W G env σ H Fs) (r : RpO W.C G H d v F1) (dj : ∀ i a, F1 a → ¬ Fs i a) :
    Sim W G (env.set i (some d)) (σ.set i (some v)) H (fun j => if j = i then F1 else Fs j) where
  le := S.le
  len := by rw [List.length_set, List.length_set]; exact S.len
  rp := fun j d' e => by
    by_cases h : i = j
    · subst h
      have hl : i < env.length := by
        have h1 := (List.getElem?_eq_some_iff.mp e).1
        rw [List.length_set] at h1
        exact h1
      rw [List.getElem?_set_self hl] at e
      cases e
      exact ⟨v, by rw [List.getElem?_set_self (by rw [← S.len]; exact hl)], by simpa using r⟩
    · rw [List.getElem?_set_ne h] at e
      obtain ⟨w, h1, h2⟩ := S.rp j d' e
      exact ⟨w, by rw [List.getElem?_set_ne h]; exact h1, by simpa [Ne.symm h] using h2⟩
  dj := fun j k a hjk h1 h2 => by
    by_cases hj : j = i
    · by_cases hk : k = i
      · exact hjk (hj.trans hk.symm)
      · simp only [hj, hk, if_true, if_false] at h1 h2
        exact dj k a h1 h2
    · by_cases hk : k = i
      · simp only [hj, hk, if_true, if_false] at h1 h2
        exact dj j a h2 h1
      · simp only [hj, hk, if_false] at h1 h2
        exact S.dj j k a hjk h1 h2
  ow := fun j a h => by
    by_cases hj : j = i
    · simp only [hj, if_true] at h
      exact r.own a h
    · simp only [hj, if_false] at h
      exact S.ow j a h
  tb := S.tb
theorem all_set {F1 : Fp} {i : Nat} : ∀ a, All (fun j => if j = i then F1 else Fs j) a → F1 a ∨ All Fs a := fun a ⟨j, h⟩ => by
  by_cases hj : j = i
  · simp only [hj, if_true] at h; exact .inl h
  · simp only [hj, if_false] at h; exact .inr ⟨j, h⟩
def sSet (i : Nat) (f : En → RE) : En → RS := fun env => match f env with
  | .ok (d, e) => .nx (e.set i (some d))
  | .exc c e => .exc c e
  | .stk => .stk
theorem set_core {f : En → RE} {i : Nat} {D : Ends} (hp : i ∉ pr) (q : tS W Wx pr env (sSet i f env) D σ H) : tE W Wx env (f env) σ H fun x H1 => D.nx (σ.set i (some x)) H1 := by
  obtain ⟨G, Fs, S, q⟩ := q
  refine ⟨G, Fs, S, ?_⟩
  unfold sSet at q
  cases e1 : f env with
  | stk => rw [e1] at q; exact q
  | exc c e => rw [e1] at q; exact fun G' H' Fs' s S' => q σ G' H' Fs' s S' (Pr.refl _ _)
  | ok p =>
    obtain ⟨d, e⟩ := p
    rw [e1] at q
    intro v G' H' F1 Fs' s r S' dj
    exact q _ G' H' _ (s.wide (fun _ h => h) fun a h => .inr (all_set a h)) (S'.set r dj) (Pr.set hp)
theorem SS_set (i : Nat) {x : Str} {e : Expr} {f : En → RE} {pos' pos : Pos} (hN : X.N.Nodup) (he : SE X W Wx f e) (hp : i ∉ pr := by decide) (hi : X.N[i]? = some x := by rfl) (hx : Loc X.env.scope x := by first | exact .inl rfl | exact .inr rfl)
    (hs : swapsWith e (some (.Name x pos')) pos.line X.env = pure false := by rfl) (hf : X.fn x = true ∨ X.env.scope.names.lookup x = some .local := by first | exact .inl rfl | exact .inr rfl) : SS X W Wx pr (sSet i f) (.Assign [.Name x pos'] e pos) :=
  fun env => (ps_set hN hi hx (he env) hs hf).imp fun D σ H q => set_core hp q

/-! ### return, values dropped -/
def sRet (f : En → RE) : En → RS := fun env => match f env with
  | .ok (d, e) => .rt d e
  | .exc c e => .exc c e
  | .stk => .stk
theorem SS_ret {e : Expr} {f : En → RE} {pos : Pos} (he : SE X W Wx f e) : SS X W Wx pr (sRet f) (.Return (some e) pos) := fun env => (ps_ret (he env)).imp fun D σ H => by
  rintro ⟨G, Fs, S, q⟩
  refine ⟨G, Fs, S, ?_⟩
  unfold sRet at q
  cases e1 : f env with
  | stk => rw [e1] at q; exact q
  | exc c e => rw [e1] at q; exact fun G' H' Fs' s S' => q σ G' H' Fs' s S' (Pr.refl _ _)
  | ok p =>
    obtain ⟨d, e⟩ := p
    rw [e1] at q
    exact fun v G' H' F1 Fs' s r S' dj => q v σ G' H' F1 Fs' s r S' dj (Pr.refl _ _)
def sRetN : En → RS := fun env => .rt (.sh .non) env
theorem SS_retN {pos : Pos} : SS X W Wx pr sRetN (.Return none pos) := fun env => ps_retN.imp fun D σ H => by
  rintro ⟨G, Fs, S, q⟩
  exact q .non σ G H Emp Fs (S.refl.wide (fun _ h => h) fun a h => .inl (h.elim (fun h => h.elim) id)) (.sh .non fun _ h => h) S (fun _ _ h => h.elim) (Pr.refl _ _)
def sExpr (f : En → RE) : En → RS := fun env => match f env with
  | .ok (_, e) => .nx e
  | .exc c e => .exc c e
  | .stk => .stk
theorem SS_expr {e : Expr} {f : En → RE} {pos : Pos} (he : SE X W Wx f e) (hs : swapsWith e none pos.line X.env = pure false := by rfl) : SS X W Wx pr (sExpr f) (.Expr e pos) := fun env => (ps_expr (he env) hs).imp fun D σ H => by
  rintro ⟨G, Fs, S, q⟩
  refine ⟨G, Fs, S, ?_⟩
  unfold sExpr at q
  cases e1 : f env with
  | stk => rw [e1] at q; exact q
  | exc c e => rw [e1] at q; exact fun G' H' Fs' s S' => q σ G' H' Fs' s S' (Pr.refl _ _)
  | ok p =>
    obtain ⟨d, e⟩ := p
    rw [e1] at q
    exact fun v G' H' F1 Fs' s r S' dj => q σ G' H' Fs' (s.wide (fun _ h => h) fun a h => .inr (.inr h)) S' (Pr.refl _ _)
theorem SS_pass {pos : Pos} : SS X W Wx pr sNil (.Pass pos) := fun env => ps_pass.imp fun D σ H => by
  rintro ⟨G, Fs, S, q⟩
  exact q σ G H Fs S.refl S (Pr.refl _ _)
def sBrk : En → RS := fun env => .bk env
theorem SS_brk {pos : Pos} : SS X W Wx pr sBrk (.Break pos) := fun env => ps_break.imp fun D σ H => by
  rintro ⟨G, Fs, S, q⟩
  exact q σ G H Fs S.refl S (Pr.refl _ _)
def sCnt : En → RS := fun env => .ct env
theorem SS_cnt {pos : Pos} : SS X W Wx pr sCnt (.Continue pos) := fun env => ps_continue.imp fun D σ H => by
  rintro ⟨G, Fs, S, q⟩
  exact q σ G H Fs S.refl S (Pr.refl _ _)

/-! ### if -/
def sIf (c : En → R En (Bool × En)) (g h : En → RS) : En → RS := fun env => match c env with
  | .ok (true, e) => g e
  | .ok (false, e) => h e
  | .exc c e => .exc c e
  | .stk => .stk
theorem SS_if {c : Expr} {a b : List Stmt} {f : En → R En (Bool × En)} {g h : En → RS} {pos : Pos} (hc : SU X W Wx f c) (ha : SSs X W Wx pr g a) (hb : SSs X W Wx pr h b) : SS X W Wx pr (sIf f g h) (.If c a b pos) := fun env =>
  (ps_if (hc env) ha.any hb.any).imp fun D σ H => by
    rintro ⟨G, Fs, S, q⟩
    refine ⟨G, Fs, S, ?_⟩
    unfold sIf at q
    cases e1 : f env with
    | stk => rw [e1] at q; exact q
    | exc c e => rw [e1] at q; exact fun G' H' Fs' s S' => q σ G' H' Fs' s S' (Pr.refl _ _)
    | ok p =>
      obtain ⟨b, e⟩ := p
      rw [e1] at q
      intro G' H' Fs' s S'
      cases b with
      | true => rw [if_pos rfl]; exact ⟨e, tS.after s S' (Pr.refl _ _) S q⟩
      | false => rw [if_neg (by decide)]; exact ⟨e, tS.after s S' (Pr.refl _ _) S q⟩

/-! ### while -/
/-- fuel enough; never unfolded -/
noncomputable def fuelW : Nat := Classical.choose (⟨1000, Nat.le_refl _⟩ : ∃ n : Nat, 1000 ≤ n)
theorem fuelW_ge : 1000 ≤ fuelW := Classical.choose_spec (⟨1000, Nat.le_refl _⟩ : ∃ n : Nat, 1000 ≤ n)
def whl (c : En → R En (Bool × En)) (body : En → RS) : Nat → En → RS
  | 0, _ => .stk
  | n + 1, env => match c env with
    | .ok (true, e) => match body e with
      | .nx e => whl c body n e
      | .ct e => whl c body n e
      | .bk e => .nx e
      | r => r
    | .ok (false, e) => .nx e
    | .exc c e => .exc c e
    | .stk => .stk
theorem SS_while (n : Nat) {c : Expr} {a : List Stmt} {f : En → R En (Bool × En)} {g : En → RS} {pos : Pos} (hp : PassesOwn (model X.prog X.w) X.A X.env X.xe) (hc : SU X W Wx f c) (ha : SSs X W Wx pr g a) : SS X W Wx pr (whl f g n) (.While c a [] pos) := fun env =>
  (ps_while hp hc.any ha.any).imp fun D σ H q => by
    refine ⟨fun m σ H => ∃ env, tS W Wx pr env (whl f g m env) D σ H, ⟨n, env, q⟩, ?_⟩
    rintro m σ H ⟨env, G, Fs, S, q⟩
    cases m with
    | zero => exact q.elim
    | succ m =>
      refine ⟨env, G, Fs, S, ?_⟩
      unfold whl at q
      cases e1 : f env with
      | stk => rw [e1] at q; exact q
      | exc c e => rw [e1] at q; exact fun G' H' Fs' s S' => q σ G' H' Fs' s S' (Pr.refl _ _)
      | ok p =>
        obtain ⟨b, e⟩ := p
        rw [e1] at q
        intro G' H' Fs' s S'
        cases b with
        | false => rw [if_neg (by decide)]; exact q σ G' H' Fs' s S' (Pr.refl _ _)
        | true =>
          rw [if_pos rfl]
          refine ⟨fun σ' H' => ∃ env, tS W Wx pr env (whl f g m env) D σ' H', fun σ' H' h => ⟨m, Nat.lt_succ_self m, h⟩, e, G', Fs', S', ?_⟩
          dsimp only at q
          cases e2 : g e with
          | stk => rw [e2] at q; exact q
          | nx e' => rw [e2] at q; exact fun σ2 G2 H2 Fs2 s2 S2 p2 => ⟨e', tS.after (s.trans s2) S2 p2 S q⟩
          | ct e' => rw [e2] at q; exact fun σ2 G2 H2 Fs2 s2 S2 p2 => ⟨e', tS.after (s.trans s2) S2 p2 S q⟩
          | bk e' => rw [e2] at q; exact fun σ2 G2 H2 Fs2 s2 S2 p2 => q σ2 G2 H2 Fs2 (s.trans s2) S2 p2
          | rt d e' => rw [e2] at q; exact fun v σ2 G2 H2 F1 Fs2 s2 r2 S2 dj p2 => q v σ2 G2 H2 F1 Fs2 (s.trans s2) r2 S2 dj p2
          | exc c e' => rw [e2] at q; exact fun σ2 G2 H2 Fs2 s2 S2 p2 => q σ2 G2 H2 Fs2 (s.trans s2) S2 p2

/-! ### what is walked -/
/-- J gives the shared items ds one by one, wherever G stands -/
def Src (W : Wd) (J : It) (G : Hp) (ds : List D) : Prop := ∃ (Gd : Hp → Prop) (Y : Nat → Hp → V → Hp → Prop), Walk J ds.length Gd Y ∧ (∀ H, Sub G H → Gd H) ∧
  ∀ (i : Nat) (G' H' : Hp) (x : V) (H2 : Hp), i < ds.length → Sub G G' → Sub G' H' → TabOk W H' → Y i H' x H2 → ∃ G2 d, ds[i]? = some d ∧ Step W G' H' Emp G2 H2 Emp ∧ RpD W.C G2 d x
theorem Src.sub {J : It} {ds : List D} (h : Src W J G ds) (s : Sub G G') : Src W J G' ds := by
  obtain ⟨Gd, Y, w, h1, h2⟩ := h
  exact ⟨Gd, Y, w, fun H q => h1 H fun a o e => q a o (s a o e), fun i G2 H2 x H3 hi q => h2 i G2 H2 x H3 hi fun a o e => q a o (s a o e)⟩
def tI (W : Wd) (Wx : WX) (env : En) (r : R En (List D × En)) : TI := fun σ H R => ∃ G Fs, Sim W G env σ H Fs ∧ match r with
  | .ok (ds, env') => ∀ J G' H' Fs', Step W G H (All Fs) G' H' (All Fs') → Sim W G' env' σ H' Fs' → Src W J G' ds → R J H'
  | .exc c env' => ∀ G' H' Fs', Step W G H (All Fs) G' H' (All Fs') → Sim W G' env' σ H' Fs' → Wx (.ref (W.C.cls c)) none σ H'
  | .stk => False
def SI (X : Cx) (W : Wd) (Wx : WX) (tg : Expr) (f : En → R En (List D × En)) (iter : Expr) : Prop := ∀ env, PI X tg iter (tI W Wx env (f env))
theorem _root_.L2.PI.imp {tg iter : Expr} {t t' : TI} (h : PI X tg iter t) (hi : ∀ σ H R, t' σ H R → t σ H R) : PI X tg iter t' := ⟨fun pins s σ H R I q => h.run pins s σ H R I (hi σ H R q)⟩
theorem PI_any {tg iter : Expr} {f : En → R En (List D × En)} (h : SI X W Wx tg f iter) : PI X tg iter (fun σ H R => ∃ env, tI W Wx env (f env) σ H R) := ⟨fun pins s σ H R I ⟨env, q⟩ => (h env).run pins s σ H R I q⟩

/-! ### targets that take a shared value -/
def SG (X : Cx) (W : Wd) (pr : List Nat) (tgt : D → En → Option En) (tg : Expr) : Prop := ∃ g, PG X tg g ∧ ∀ (G : Hp) (env env' : En) (σ : St) (H : Hp) (Fs : Nat → Fp) (d : D) (v : V) (Q : St → Hp → Prop), Sim W G env σ H Fs → RpD W.C G d v → tgt d env = some env' →
  (∀ σ' Fs', Sim W G env' σ' H Fs' → (∀ a, All Fs' a → All Fs a) → Pr pr σ σ' → Q σ' H) → g v σ H Q
def gN (i : Nat) : D → En → Option En := fun d env => some (env.set i (some (.sh d)))
theorem SG_name (i : Nat) {x : Str} {pos : Pos} (hN : X.N.Nodup) (hp : i ∉ pr := by decide) (hi : X.N[i]? = some x := by rfl) (hx : Loc X.env.scope x := by first | exact .inl rfl | exact .inr rfl) (hf : X.fn x = true ∨ X.env.scope.names.lookup x = some .local := by first | exact .inl rfl | exact .inr rfl) :
    SG X W pr (gN i) (.Name x pos) := by
  refine ⟨gName i, pg_name hN hi hx hf, fun G env env' σ H Fs d v Q S r e q => ?_⟩
  cases e
  refine q _ _ (S.set (F1 := Emp) (.sh r fun _ h => h) fun _ _ h => h.elim) (fun a h => ?_) (Pr.set hp)
  rcases all_set a h with h | h
  · exact h.elim
  · exact h
def SGs (X : Cx) (W : Wd) (pr : List Nat) (n : Nat) (tgt : List D → En → Option En) (tgs : List Expr) : Prop := (∀ xs env env', tgt xs env = some env' → xs.length = n) ∧ ∃ g, PGs X tgs g ∧ ∀ (G : Hp) (env env' : En) (σ : St) (H : Hp) (Fs : Nat → Fp) (ds : List D) (vs : List V) (Q : St → Hp → Prop), Sim W G env σ H Fs → RpDs W G ds vs → tgt ds env = some env' →
  (∀ σ' Fs', Sim W G env' σ' H Fs' → (∀ a, All Fs' a → All Fs a) → Pr pr σ σ' → Q σ' H) → g vs σ H Q
def gsNil : List D → En → Option En := fun ds env => if ds.isEmpty then some env else none
def gsCons (t : D → En → Option En) (u : List D → En → Option En) : List D → En → Option En := fun ds env => match ds with
  | [] => none
  | d :: ds => (t d env).bind fun e => u ds e
theorem SGs_nil : SGs X W pr 0 gsNil [] := by
  refine ⟨fun xs env env' h => ?_, gNil, pgs_nil, fun G env env' σ H Fs ds vs Q S r e q => ?_⟩
  · unfold gsNil at h
    split at h
    · rename_i h'
      cases xs with
      | nil => rfl
      | cons _ _ => cases h'
    · cases h
  · unfold gsNil at e
    split at e
    · rename_i h
      cases e
      cases r with
      | nil => exact ⟨rfl, q σ Fs S (fun _ h => h) (Pr.refl _ _)⟩
      | cons _ _ => cases h
    · cases e
theorem SGs_cons {n : Nat} {t : D → En → Option En} {u : List D → En → Option En} {e : Expr} {es : List Expr} (h1 : SG X W pr t e) (h2 : SGs X W pr n u es) (hs : (assignEach (e :: es) X.env).map (·.2) = assign e X.env :: (assignEach es X.env).map (·.2) := by rfl) : SGs X W pr (n + 1) (gsCons t u) (e :: es) := by
  obtain ⟨g1, p1, k1⟩ := h1
  obtain ⟨hn, g2, p2, k2⟩ := h2
  refine ⟨fun xs env env' h => ?_, gCons g1 g2, pgs_cons p1 p2 hs, fun G env env' σ H Fs ds vs Q S r e q => ?_⟩
  · cases xs with
    | nil => cases h
    | cons x xs =>
      have h' : (t x env).bind (fun e => u xs e) = some env' := h
      cases e1 : t x env with
      | none => rw [e1] at h'; cases h'
      | some e2 => rw [e1, Option.bind_some] at h'; rw [List.length_cons, hn xs e2 env' h']
  · cases r with
    | nil => cases e
    | @cons d v ds vs r rs =>
      have e' : (t d env).bind (fun e => u ds e) = some env' := e
      cases e1 : t d env with
      | none => rw [e1] at e'; cases e'
      | some e2 =>
        rw [e1, Option.bind_some] at e'
        refine ⟨_, _, rfl, k1 G env e2 σ H Fs _ _ _ S r e1 fun σ' Fs' S' a p => ?_⟩
        exact k2 G e2 env' σ' H Fs' _ _ Q S' rs e' fun σ2 Fs2 S2 a2 pp2 => q σ2 Fs2 S2 (fun x h => a x (a2 x h)) (p.trans pp2)
def gT (u : List D → En → Option En) : D → En → Option En := fun d env => match d with
  | .tup _ xs => u xs env
  | _ => none
theorem SG_tup {u : List D → En → Option En} {es : List Expr} {k : Nat} {pos : Pos} (hc : X.calm = true) {n : Nat} (h : SGs X W pr n u es) (hst : (assignEach es X.env).findIdx? (·.1) = none := by rfl) (hn : (assignEach es X.env).length = n := by rfl) : SG X W pr (gT u) (.Tuple es k pos) := by
  obtain ⟨hu, g, p, kk⟩ := h
  refine ⟨gTup X.K n g, pg_tup hc p hn hst, fun G env env' σ H Fs d v Q S r e q => ?_⟩
  unfold gT at e
  split at e
  · rename_i m xs
    cases r with
    | tup h1 h2 h3 => exact ⟨_, _, rfl, .inl (Rd.sub S.le h1.rd), by rw [← h2]; exact hu _ _ _ e, kk G env env' σ H Fs _ _ Q S (paired_of h2 h3) e q⟩
  · cases e

/-! ### for -/
def forL (tgt : D → En → Option En) (body : En → RS) : List D → En → RS
  | [], env => .nx env
  | d :: ds, env => match tgt d env with
    | none => .stk
    | some env1 => match body env1 with
      | .nx e => forL tgt body ds e
      | .ct e => forL tgt body ds e
      | .bk e => .nx e
      | r => r
def sFor (it : En → R En (List D × En)) (tgt : D → En → Option En) (body : En → RS) : En → RS := fun env => match it env with
  | .ok (ds, e) => forL tgt body ds e
  | .exc c e => .exc c e
  | .stk => .stk
/-- the reading without its state -/
def qS (W : Wd) (Wx : WX) (pr : List Nat) (r : RS) (D : Ends) (G : Hp) (σ : St) (H : Hp) (F : Fp) : Prop := match r with
  | .nx env' => ∀ σ' G' H' Fs', Step W G H F G' H' (All Fs') → Sim W G' env' σ' H' Fs' → Pr pr σ σ' → D.nx σ' H'
  | .rt d env' => ∀ v σ' G' H' F1 Fs', Step W G H F G' H' (fun a => F1 a ∨ All Fs' a) → RpO W.C G' H' d v F1 → Sim W G' env' σ' H' Fs' → (∀ i a, F1 a → ¬ Fs' i a) → Pr pr σ σ' → D.rt v H'
  | .bk env' => ∀ σ' G' H' Fs', Step W G H F G' H' (All Fs') → Sim W G' env' σ' H' Fs' → Pr pr σ σ' → D.bk σ' H'
  | .ct env' => ∀ σ' G' H' Fs', Step W G H F G' H' (All Fs') → Sim W G' env' σ' H' Fs' → Pr pr σ σ' → D.ct σ' H'
  | .exc c env' => ∀ σ' G' H' Fs', Step W G H F G' H' (All Fs') → Sim W G' env' σ' H' Fs' → Pr pr σ σ' → Wx (.ref (W.C.cls c)) none σ' H'
  | .stk => False
theorem qS.step {r : RS} {D : Ends} (q : qS W Wx pr r D G σ H F) (s : Step W G H F G' H' F') (p : Pr pr σ σ') : qS W Wx pr r D G' σ' H' F' := by
  unfold qS at q ⊢
  cases r with
  | nx e => exact fun σ2 G2 H2 Fs2 s2 S2 p2 => q σ2 G2 H2 Fs2 (s.trans s2) S2 (p.trans p2)
  | rt d e => exact fun v σ2 G2 H2 F1 Fs2 s2 r2 S2 dj p2 => q v σ2 G2 H2 F1 Fs2 (s.trans s2) r2 S2 dj (p.trans p2)
  | bk e => exact fun σ2 G2 H2 Fs2 s2 S2 p2 => q σ2 G2 H2 Fs2 (s.trans s2) S2 (p.trans p2)
  | ct e => exact fun σ2 G2 H2 Fs2 s2 S2 p2 => q σ2 G2 H2 Fs2 (s.trans s2) S2 (p.trans p2)
  | exc c e => exact fun σ2 G2 H2 Fs2 s2 S2 p2 => q σ2 G2 H2 Fs2 (s.trans s2) S2 (p.trans p2)
  | stk => exact q
theorem tS_iff {r : RS} {D : Ends} : tS W Wx pr env r D σ H ↔ ∃ G Fs, Sim W G env σ H Fs ∧ qS W Wx pr r D G σ H (All Fs) := by
  unfold tS qS
  cases r <;> exact Iff.rfl
theorem SS_for {tg iter : Expr} {a : List Stmt} {it : En → R En (List D × En)} {tgt : D → En → Option En} {g : En → RS} {pos : Pos} (hp : PassesOwn (model X.prog X.w) X.A X.env X.xe) (hc : X.calm = true) (hi : SI X W Wx tg it iter) (hg : SG X W pr tgt tg) (ha : SSs X W Wx pr g a) (hs : ∀ x, foldedSetIterable iter X.env x = pure x := by intro _; rfl) :
    SS X W Wx pr (sFor it tgt g) (.For tg iter a [] pos) := fun env => by
  obtain ⟨gg, pg, kg⟩ := hg
  refine (ps_for hp hc (hi env) pg ha.any hs).imp fun D σ H q => ?_
  rw [tS_iff] at q
  obtain ⟨G, Fs, S, q⟩ := q
  refine ⟨G, Fs, S, ?_⟩
  unfold sFor at q
  cases e1 : it env with
  | stk => rw [e1] at q; exact q
  | exc c e => rw [e1] at q; exact fun G' H' Fs' s S' => q σ G' H' Fs' s S' (Pr.refl _ _)
  | ok pp =>
    obtain ⟨ds, e⟩ := pp
    rw [e1] at q
    intro J G1 H1 Fs1 s1 S1 src
    have q1 : qS W Wx pr (forL tgt g ds e) D G1 σ H1 (All Fs1) := q.step s1 (Pr.refl _ _)
    obtain ⟨Gd, Y, w, hGd, hY⟩ := id src
    refine for_it (g := gg) (tb := fun D σ H => ∃ env, tS W Wx pr env (g env) D σ H) (D := D) w (fun i σ' H' => ∃ env' G' Fs', Sub G1 G' ∧ Sim W G' env' σ' H' Fs' ∧ qS W Wx pr (forL tgt g (ds.drop i) env') D G' σ' H' (All Fs')) ⟨e, G1, Fs1, fun _ _ h => h, S1, q1⟩ ?_ ?_ ?_
    · rintro i σ' H' hi' ⟨env', G', Fs', sb, S', _⟩
      exact hGd H' fun a o h => S'.le a o (sb a o h)
    · rintro i x σ' H' H2 hi' ⟨env', G', Fs', sb, S', q'⟩ hy
      obtain ⟨G2, d, hd, st, rd⟩ := hY i G' H' x H2 hi' sb S'.le S'.tb hy
      have hdr : ds.drop i = d :: ds.drop (i + 1) := by
        obtain ⟨h1, h2⟩ := List.getElem?_eq_some_iff.mp hd
        rw [List.drop_eq_getElem_cons h1, h2]
      rw [hdr] at q'
      unfold forL at q'
      have S2 : Sim W G2 env' σ' H2 Fs' := S'.step0 st
      have st' := st.all (Fs := Fs')
      cases e3 : tgt d env' with
      | none => rw [e3] at q'; exact q'.elim
      | some env1 =>
        rw [e3] at q'
        refine kg G2 env' env1 σ' H2 Fs' d x _ S2 rd e3 fun σ3 Fs3 S3 sub3 p3 => ?_
        have q3 := q'.step (st'.wide (fun _ h => h) fun a h => .inl (sub3 a h) : Step W G' H' (All Fs') G2 H2 (All Fs3)) p3
        refine ⟨env1, G2, Fs3, S3, ?_⟩
        have sb2 : Sub G1 G2 := fun a o h => st.g a o (sb a o h)
        dsimp only at q3
        cases e4 : g env1 with
        | stk => rw [e4] at q3; exact q3
        | nx e' => rw [e4] at q3; exact fun σ4 G4 H4 Fs4 s4 S4 p4 => ⟨e', G4, Fs4, fun a o h => s4.g a o (sb2 a o h), S4, q3.step s4 p4⟩
        | ct e' => rw [e4] at q3; exact fun σ4 G4 H4 Fs4 s4 S4 p4 => ⟨e', G4, Fs4, fun a o h => s4.g a o (sb2 a o h), S4, q3.step s4 p4⟩
        | bk e' => rw [e4] at q3; exact q3
        | rt d' e' => rw [e4] at q3; exact q3
        | exc c e' => rw [e4] at q3; exact q3
    · rintro σ' H' ⟨env', G', Fs', sb, S', q'⟩
      rw [List.drop_length] at q'
      exact q' σ' G' H' Fs' S'.refl S' (Pr.refl _ _)
end
end
end FD


set_option Elab.async false
set_option linter.all false
set_option maxRecDepth 100000
/-! F5: what is walked: sequences, ranges, enumerate. -/
namespace FD
noncomputable section
open PySem PySem.Spec PyProof.Rows

set_option maxHeartbeats 1000000 in
theorem meets_enumerate_new1 {v : Value} {o : Obj} {H : Heap → Prop} (B : Begins v o H) :
    Meets (Builtin.«enumerate.__new__» ⟨[.type "enumerate", v], []⟩) (fun _ R s => H s.heap ∧
      R (.ok (.ret (.ref (s.heap.push o).objs.size))) { s with heap := (s.heap.push o).push { cls := .type "enumerate", data := .fields #[.none, .bool false, .ref s.heap.objs.size, rawInt 0, .none, .none] } }) :=
  .of_wp fun prog w A R s h => by
    obtain ⟨hp, g, d, tk, os⟩ := s; obtain ⟨h1, h⟩ := h
    have hsub := sub_enumerate
    have q1 : ∀ {A' : Around} {E : Value → Shared → Prop} {Q : Value → Shared → Prop}, Q (.ref hp.objs.size) ⟨hp.push o, g, d, tk, os⟩ → wpAny (model prog w) A' (pyIter v) Q E ⟨hp, g, d, tk, os⟩ :=
      fun q => B.iter prog w _ _ ⟨hp, g, d, tk, os⟩ _ h1 q
    wp_walk using q1
    refine wpAny_stack_any fun st => wpAny_pure ?_
    split
    · rename_i c _ _ _ _ _
      cases (c == Value.type "enumerate")
      · wp_walk using q1
        exact ⟨_, rfl, h⟩
      · wp_walk using q1
        exact ⟨_, rfl, h⟩
    · wp_walk using q1
      exact ⟨_, rfl, h⟩
section
variable {prog : Program} {w : World} {A : Around} {E : Value → Shared → Prop} {s : Shared}
theorem enum_begins1 {v : Value} {o : Obj} {H : Heap → Prop} {Q : Value → Shared → Prop} (B : Begins v o H) (h1 : H s.heap)
    (h : ∀ h', IsEnum h' (s.heap.objs.size + 1) s.heap.objs.size 0 .none → h'.get? s.heap.objs.size = some o → h'.objs.size = s.heap.objs.size + 2 →
      (∀ b o, s.heap.get? b = some o → h'.get? b = some o) → Q (.ref (s.heap.objs.size + 1)) { s with heap := h' }) :
    wpAny (model prog w) A (call (.type "enumerate") [v]) Q E s := by
  refine callType_new F.called_enumerate (by decide) (F.typeCall_enumerate_1 _) (F.newCall_enumerate_1 _) (fun obj => F.args_object_init_2 obj _) F.entry_enumerate_new
    (meets_enumerate_new1 B) ⟨h1, ?_⟩
  have hz : (s.heap.push o).objs.size = s.heap.objs.size + 1 := Heap.size_push ..
  show _ ∧ _
  rw [hz]
  have he : IsEnum ((s.heap.push o).push { cls := .type "enumerate", data := .fields #[.none, .bool false, .ref s.heap.objs.size, rawInt 0, .none, .none] }) (s.heap.objs.size + 1) s.heap.objs.size 0 .none := by
    have := Heap.get?_push_size (s.heap.push o) (o := { cls := .type "enumerate", data := .fields #[.none, .bool false, .ref s.heap.objs.size, rawInt 0, .none, .none] }) rfl
    rw [hz] at this; exact this
  refine ⟨⟨_, he, rfl⟩, h _ he (Heap.get?_push_of_some _ (Heap.get?_push_size _ B.free)) (by rw [Heap.size_push, hz]) fun b o x => Heap.get?_push_of_some _ (Heap.get?_push_of_some _ x)⟩
end
open L2
/-- enumerate over a tuple -/
def Itet (K : PySem.W.Frag) (a : Addr) : It :=
  ⟨fun i H => ∃ (xs : List V) (x : V), SqT K H a xs ∧ xs[i]? = some x, fun i H v H' => ∃ T x, v = .ref T ∧ H T = none ∧ H' = upd H T (.tup [.int (i : Nat), x]) ∧ ∀ xs, SqT K H a xs → xs[i]? = some x, fun i H => ∃ xs : List V, SqT K H a xs ∧ xs.length ≤ i⟩
theorem turn_enumT {P : Program} {w : World} {K : PySem.W.Frag} {elts : List Expr} {kk : Nat} {tpos : Pos} (a e it : Addr) :
    Turn P w K (.Tuple elts kk tpos) (Itet K a) [e, it] e (fun i h => (∃ old, IsEnum h e it ((i : Nat) : Int) old) ∧ h.IsTupleIter it a i ∧ e ≠ it) where
  mem := by simp
  obj := fun i h st b hb => by
    obtain ⟨⟨old, he⟩, ⟨o, ho, hc, hd⟩, _⟩ := st
    have e' : b = e ∨ b = it := by simpa using hb
    rcases e' with z | z
    · rw [z]; exact ⟨_, he, fun v q => nomatch q⟩
    · rw [z]; exact ⟨o, ho, fun v q => by rw [hd] at q; cases q⟩
  keep := fun i h h' st k => let ⟨⟨old, he⟩, hi, hne⟩ := st; ⟨⟨old, k e (by simp) _ he⟩, hi.at fun o q => k it (by simp) o q, hne⟩
  item := by
    intro X hP hw hK hc i pins s σ H E I hf st hg
    subst hP hw hK
    obtain ⟨⟨old, he⟩, hit, hne⟩ := st
    obtain ⟨xs, x, hq, hx⟩ := hg
    obtain ⟨its, rv, p, hz⟩ := I.tuple hq
    obtain ⟨u, hu, ru⟩ := rv.get hx
    have hel : e < s.heap.objs.size := Heap.lt_size he
    have hil : it < s.heap.objs.size := by obtain ⟨_, q, _⟩ := hit; exact Heap.lt_size q
    have hpt : s.heap.IsTuple a its.toArray := p
    have hae : a ≠ e := by
      rintro rfl
      obtain ⟨o, ho, hc', _⟩ := hpt
      rw [he] at ho; cases ho; simp at hc'
    have hai : a ≠ it := by
      rintro rfl
      obtain ⟨o, ho, hc', _⟩ := hpt
      obtain ⟨o2, ho2, hc2, _⟩ := hit
      rw [ho2] at ho; cases ho; rw [hc2] at hc'; simp at hc'
    have hul := (List.getElem?_eq_some_iff.mp hu).1
    refine wpAny_pyNext_enum_itemD (Draws.tuple (A := X.A.in1) (I.ok.hd hc) it a hai its.toArray) he ⟨hit, hpt⟩ (by simpa using hul) hne (by simp [hne, Ne.symm hae]) fun x' h' tk hx' ho st' hT hsz hk => ?_
    have ex : x' = u := by
      have e1 : its.toArray[i]? = some x' := hx'
      have e2 : its.toArray[i]? = some u := by simpa using hu
      rw [e1] at e2
      exact Option.some.inj e2
    subst ex
    refine ⟨_, rfl, wpAny_letOwnedTupleGo_enum (s := { s with heap := h', toks := tk + 1 }) ho fun h'' he' sb => ?_⟩
    have hT2 : h''.get? s.heap.objs.size = some { cls := .type "tuple", data := .seq #[.int i tk, x'] } := (sb.2 _ (Nat.ne_of_gt hel)).trans hT
    have new : ObjOk X.prog X.w (upd H s.heap.objs.size (.tup [.int (i : Nat), x])) h'' s.heap.objs.size (.tup [.int (i : Nat), x]) :=
      ⟨by show 2 ≤ sizeLine; decide, [.int i tk, x'], .cons ⟨_, rfl⟩ (.cons ru .nil), ⟨_, hT2, rfl, _, rfl⟩⟩
    have I1 : Inv X pins σ (upd H s.heap.objs.size (.tup [.int (i : Nat), x])) { s with heap := h'', toks := tk + 1 } :=
      I.turnedNew (ch := [e, it]) (fun b ob hb q => (sb.2 b (fun z => hb (by simp [z]))).trans (hk b ob (fun z => hb (by simp [z])) (fun z => hb (by simp [z])) q)) hf (Nat.le_refl _) new
    refine ⟨.ref s.heap.objs.size, _, I1, rfl, ⟨_, x, rfl, I.hok.fresh (Nat.le_refl _), rfl, fun ys hy => by rw [I.tuple_inj hy hq]; exact hx⟩, ⟨⟨x', ?_⟩, st'.1.at fun o q => (sb.2 it (Ne.symm hne)).trans q, hne⟩, fun b hb => ?_⟩
    · have e1 : ((i + 1 : Nat) : Int) = (i : Int) + 1 := by omega
      rw [e1]; exact he'
    · have hb' : b < s.heap.objs.size := by
        have e' : b = e ∨ b = it := by simpa using hb
        rcases e' with z | z
        · rw [z]; exact hel
        · rw [z]; exact hil
      rw [upd_ne (Nat.ne_of_lt hb')]
      exact (hf b hb).1
  done := by
    intro X hP hw hK hc i pins s σ H E I hf st hg
    subst hP hw hK
    obtain ⟨⟨old, he⟩, hit, hne⟩ := st
    obtain ⟨xs, hq, hx⟩ := hg
    obtain ⟨its, rv, p, hz⟩ := I.tuple hq
    obtain ⟨f0, f1, f2, f3, f4, f5⟩ := hf it (by simp)
    have hl := rv.length
    have hpt : s.heap.IsTuple a its.toArray := p
    have hai : a ≠ it := by
      rintro rfl
      obtain ⟨o, ho, hc', _⟩ := hpt
      obtain ⟨o2, ho2, hc2, _⟩ := hit
      rw [ho2] at ho; cases ho; rw [hc2] at hc'; simp at hc'
    have hT : s.TypeIs (.ref e) "enumerate" := ⟨_, he, rfl⟩
    unfold pyNext
    refine wpAny_bind (wpAny_attempt (wpAny_callSpecial?_slot (name := Str.ofString "__next__") hT F.slot_enumerate_next
      (wpAny_call_entry F.slot_enumerate_next hT F.entry_enumerate_next ?_ (F.args_enumerate_next_1 _))))
    show wpAny _ _ (field (.ref e) 2 >>= _) _ _ _
    refine wpAny_bind (wpAny_field he rfl (x := .ref it) rfl ?_)
    refine wpAny_bind (wpAny_nextOf_tuple_end (I.ok.hd hc) hit hpt (by simp; omega) fun h' x he' hx' => ?_)
    obtain ⟨o, ho, hcc⟩ := hx'
    refine wpAny_bind (wpAny_isInstance (T := "StopIteration") (b := true) ⟨o, ho, hcc⟩ isSubtype_stop ?_)
    exact wpAny_pure ⟨rfl, I.turned (t' := s.toks) (fun b o hb q => he' b o hb q) f0 f1 f3 f4 f5⟩
  self := fun A i s Q E st h => let ⟨⟨_, he⟩, _⟩ := st; wpAny_pyIter_enum he h

/-- a list or a tuple -/
def iSeq (K : PySem.W.Frag) (te : TE) : TI := fun σ H R => te σ H fun x H1 => ∃ a, x = .ref a ∧ (((∃ xs, SqL K H1 a xs) ∧ R (Itl K a) H1) ∨ ((∃ xs, SqT K H1 a xs) ∧ R (Itt K a) H1))
theorem pi_seq {X : Cx} {tg l : Expr} {tl : TE} (hl : PE X l tl) : PI X tg l (iSeq X.K tl) := by
  refine ⟨fun pins s σ H R I h => ?_⟩
  refine thn (hl.run pins s σ H _ I h) fun v s1 ⟨x, H1, I1, r1, q1⟩ => ?_
  obtain ⟨a, e, q1⟩ := q1
  subst e
  cases r1
  rcases q1 with ⟨⟨xs, hq⟩, q⟩ | ⟨⟨xs, hq⟩, q⟩
  · obtain ⟨its, rv, p, hz⟩ := I1.list hq
    refine wpAny_pyIter_list p.isList ?_
    refine ⟨s1.heap.objs.size, [s1.heap.objs.size], _, _, H1, rfl, I1.kept (t' := s1.toks) fun b o e => Heap.get?_push_of_some _ e, turn_list a _, ⟨_, Heap.get?_push_size _ rfl, rfl, rfl⟩, fun b hb => ?_, q⟩
    have e : b = s1.heap.objs.size := by simpa using hb
    subst e
    exact I1.fpOk (Nat.le_refl _) (I1.hok.fresh (Nat.le_refl _))
  · obtain ⟨its, rv, p, hz⟩ := I1.tuple hq
    refine wpAny_pyIter_tuple (show s1.heap.IsTuple a its.toArray from p) ?_
    refine ⟨s1.heap.objs.size, [s1.heap.objs.size], _, _, H1, rfl, I1.kept (t' := s1.toks) fun b o e => Heap.get?_push_of_some _ e, turn_tuple a _, ⟨_, Heap.get?_push_size _ rfl, rfl, rfl⟩, fun b hb => ?_, q⟩
    have e : b = s1.heap.objs.size := by simpa using hb
    subst e
    exact I1.fpOk (Nat.le_refl _) (I1.hok.fresh (Nat.le_refl _))
/-- enumerate of a list or a tuple -/
def iEnS (K : PySem.W.Frag) (te : TE) : TI := fun σ H R => te σ H fun x H1 => ∃ a, x = .ref a ∧ ((∃ xs, SqL K H1 a xs ∧ R (Ite K a) H1) ∨ (∃ xs, SqT K H1 a xs ∧ R (Itet K a) H1))
theorem pi_enS {X : Cx} {e : Expr} {te : TE} {p pos tpos : Pos} {elts : List Expr} {kk : Nat} (hg : Gl X "enumerate") (hm : X.mg "enumerate" = none) (he : PE X e te) (hs : starEach [e] X.env = [(false, eval e X.env)] := by rfl)
    (hs2 : starEach [e] X.env = (false, eval e X.env) :: starEach [] X.env := by rfl) :
    PI X (.Tuple elts kk tpos) (.Call (.Name "enumerate" p) [e] [] pos) (iEnS X.K te) := by
  have ha : PA X [e] (tCons te tNil) := pa_cons he pa_nil hs2
  refine ⟨fun pins s σ H R I h => ?_⟩
  have h2 : tCons te tNil σ H fun vs H1 => ∃ x a, vs = [x] ∧ x = .ref a ∧ ((∃ xs, SqL X.K H1 a xs ∧ R (Ite X.K a) H1) ∨ (∃ xs, SqT X.K H1 a xs ∧ R (Itet X.K a) H1)) := by
    have mono : ∀ (Q Q' : VK), (∀ v H, Q v H → Q' v H) → te σ H Q → te σ H Q' ∨ True := fun _ _ _ _ => .inr trivial
    show te σ H fun x H1 => ∃ y a, [x] = [y] ∧ y = .ref a ∧ _
    have e1 : (fun (x : V) (H1 : Hp) => ∃ y a, [x] = [y] ∧ y = .ref a ∧ ((∃ xs, SqL X.K H1 a xs ∧ R (Ite X.K a) H1) ∨ (∃ xs, SqT X.K H1 a xs ∧ R (Itet X.K a) H1))) =
        fun x H1 => ∃ a, x = .ref a ∧ ((∃ xs, SqL X.K H1 a xs ∧ R (Ite X.K a) H1) ∨ (∃ xs, SqT X.K H1 a xs ∧ R (Itet X.K a) H1)) := by
      funext x H1
      refine propext ⟨fun ⟨y, a, e, r⟩ => ?_, fun ⟨a, r⟩ => ⟨x, a, rfl, r⟩⟩
      cases e
      exact ⟨a, r⟩
    rw [e1]
    exact h
  refine Call_ (ld_blt I hg hm boot_enumerate (PyProof.Rows.callWith_type1 (thn (ha.run pos pins s σ H _ I h2) fun us s1 ⟨vs, H1, I1, r1, q1⟩ => ?_) hs rfl))
  obtain ⟨x, a, ex, ex2, q⟩ := q1
  subst ex ex2
  cases r1 with
  | cons r rr =>
    cases rr
    cases r
    have fin : ∀ (b : Addr), b ∈ [s1.heap.objs.size + 1, s1.heap.objs.size] → s1.heap.objs.size ≤ b := fun b hb => by
      have e' : b = s1.heap.objs.size + 1 ∨ b = s1.heap.objs.size := by simpa using hb
      rcases e' with z | z
      · rw [z]; exact Nat.le_add_right _ _
      · rw [z]; exact Nat.le_refl _
    rcases q with ⟨xs, hq, q⟩ | ⟨xs, hq, q⟩
    · obtain ⟨its, rv, p', hz⟩ := I1.list hq
      refine call_enumerate_list p'.isList fun h' he hit hsz hk => wpAny_pyIter_enum he ?_
      have I2 : Inv X pins σ H1 { s1 with heap := h' } := I1.kept (t' := s1.toks) hk
      exact ⟨s1.heap.objs.size + 1, [s1.heap.objs.size + 1, s1.heap.objs.size], _, _, H1, rfl, I2, turn_enum a (s1.heap.objs.size + 1) s1.heap.objs.size, ⟨⟨.none, he⟩, hit, Nat.succ_ne_self _⟩, fun b hb => I1.fpOk (fin b hb) (I1.hok.fresh (fin b hb)), q⟩
    · obtain ⟨its, rv, p', hz⟩ := I1.tuple hq
      have hpt : s1.heap.IsTuple a its.toArray := p'
      refine enum_begins1 (begins_tuple a its.toArray) hpt fun h' he hit hsz hk => wpAny_pyIter_enum he ?_
      have I2 : Inv X pins σ H1 { s1 with heap := h' } := I1.kept (t' := s1.toks) hk
      exact ⟨s1.heap.objs.size + 1, [s1.heap.objs.size + 1, s1.heap.objs.size], _, _, H1, rfl, I2, turn_enumT a (s1.heap.objs.size + 1) s1.heap.objs.size, ⟨⟨.none, he⟩, ⟨_, hit, rfl, rfl⟩, Nat.succ_ne_self _⟩, fun b hb => I1.fpOk (fin b hb) (I1.hok.fresh (fin b hb)), q⟩
end
end FD


set_option Elab.async false
set_option linter.all false
set_option maxRecDepth 100000
/-! F6: pure iterables; comprehensions. -/
namespace FD
noncomputable section
open PySem PySem.Spec L2

section
variable {X : Cx} {W : Wd} {Wx : WX} {pr : List Nat} {G G' H H' : Hp} {env env' : En} {σ σ' : St} {Fs Fs' : Nat → Fp} {F F' : Fp}
/-! ### pure iterables -/
def tJ (W : Wd) (Wx : WX) (env : En) (r : R Unit (List D)) : TI := fun σ H R => ∃ G Fs, Sim W G env σ H Fs ∧ match r with
  | .ok ds => ∀ J G' H', Step W G H Emp G' H' Emp → Src W J G' ds → R J H'
  | .exc c _ => ∀ G' H', Step W G H Emp G' H' Emp → Wx (.ref (W.C.cls c)) none σ H'
  | .stk => False
def SJ (X : Cx) (W : Wd) (Wx : WX) (tg : Expr) (f : En → R Unit (List D)) (iter : Expr) : Prop := ∀ env, PI X tg iter (tJ W Wx env (f env))
def iJ (f : En → R Unit (List D)) : En → R En (List D × En) := fun env => match f env with
  | .ok ds => .ok (ds, env)
  | .exc c _ => .exc c env
  | .stk => .stk
theorem SJ.si {tg iter : Expr} {f : En → R Unit (List D)} (h : SJ X W Wx tg f iter) : SI X W Wx tg (iJ f) iter := fun env => (h env).imp fun σ H R => by
  rintro ⟨G, Fs, S, q⟩
  refine ⟨G, Fs, S, ?_⟩
  unfold iJ at q
  cases e1 : f env with
  | ok ds => rw [e1] at q; exact fun J G' H' s src => q J G' H' Fs s.all (S.step0 s) src
  | exc c u => rw [e1] at q; exact fun G' H' s => q G' H' Fs s.all (S.step0 s)
  | stk => rw [e1] at q; exact q
/-- what may be walked -/
def asSeq : D → Option (List D)
  | .lst xs => some xs
  | .tup _ xs => some xs
  | _ => none
def itD : O → Option (List D)
  | .sh d => asSeq d
  | _ => none
theorem src_seq {K : PySem.W.Frag} {d : D} {ds : List D} {v : V} (le : Sub G H) (r : RpD W.C G d v) (e : asSeq d = some ds) :
    ∃ p, v = .ref p ∧ (((∃ xs, SqL K H p xs) ∧ Src W (Itl K p) G ds) ∨ ((∃ xs, SqT K H p xs) ∧ Src W (Itt K p) G ds)) := by
  have go : ∀ {xs : List D} {vs : List V}, xs.length = vs.length → (∀ (i : Nat) (d : D) (v : V), xs[i]? = some d → vs[i]? = some v → RpD W.C G d v) → ∀ (i : Nat) (G' H' : Hp) (x : V) (H2 : Hp), i < xs.length → Sub G G' → Sub G' H' → TabOk W H' → YAt vs i H' x H2 →
      ∃ G2 d, xs[i]? = some d ∧ Step W G' H' Emp G2 H2 Emp ∧ RpD W.C G2 d x := by
    intro xs vs l h i G' H' x H2 hi s1 s2 tb y
    obtain ⟨rfl, hx⟩ := y
    exact ⟨G', xs[i], List.getElem?_eq_getElem hi, Step.refl s2 tb, (h i _ x (List.getElem?_eq_getElem hi) hx).sub s1⟩
  cases r with
  | lst h l k =>
    cases e
    refine ⟨_, rfl, .inl ⟨⟨_, SqL.of (le _ _ h)⟩, _, _, by rw [l]; exact walk_list, fun H' s => SqL.of (s _ _ h), go l k⟩⟩
  | @tup m xs p vs h l k =>
    cases e
    refine ⟨_, rfl, .inr ⟨⟨_, .inl (Rd.sub le h.rd)⟩, fun H' => SqT K H' p vs, YAt vs, by rw [l]; exact walk_tup, fun H' s => .inl (Rd.sub s h.rd), go l k⟩⟩
  | _ => cases e
def jSeq (f : En → RP) : En → R Unit (List D) := fun env => (f env).bind fun x => ofO (itD x)
theorem SJ_seq {tg e : Expr} {f : En → RP} (h : SP X W Wx f e) : SJ X W Wx tg (jSeq f) e := fun env => (pi_seq (h env)).imp fun σ H R => by
  rintro ⟨G, Fs, S, q⟩
  refine ⟨G, Fs, S, ?_⟩
  unfold jSeq at q
  cases e1 : f env with
  | stk => rw [e1] at q; exact q
  | exc c u => rw [e1] at q; exact q
  | ok x =>
    rw [e1, bind_ok] at q
    intro v G1 H1 F1 s1 r1
    cases x with
    | sh d =>
      cases e2 : asSeq d with
      | none => rw [show itD (.sh d) = none from e2] at q; exact q.elim
      | some ds =>
        rw [show itD (.sh d) = some ds from e2] at q
        obtain ⟨p, rfl, h⟩ := src_seq (K := X.K) (H := H1) s1.le (rp_sh r1) e2
        refine ⟨p, rfl, ?_⟩
        rcases h with ⟨h1, h2⟩ | ⟨h1, h2⟩
        · exact .inl ⟨h1, q _ G1 H1 s1 h2⟩
        · exact .inr ⟨h1, q _ G1 H1 s1 h2⟩
    | _ => exact q.elim
/-- pairs (i, x) -/
def enumD (ds : List D) : List D := ds.mapIdx fun i d => .tup false [.int (i : Nat), d]
theorem enumD_length (ds : List D) : (enumD ds).length = ds.length := by unfold enumD; rw [List.length_mapIdx]
theorem enumD_get {ds : List D} {i : Nat} {d : D} (h : ds[i]? = some d) : (enumD ds)[i]? = some (.tup false [.int (i : Nat), d]) := by
  unfold enumD; rw [List.getElem?_mapIdx, h]; rfl
theorem src_enum {K : PySem.W.Frag} {d : D} {ds : List D} {v : V} (le : Sub G H) (r : RpD W.C G d v) (e : asSeq d = some ds) :
    ∃ p, v = .ref p ∧ ((∃ xs, SqL K H p xs ∧ Src W (Ite K p) G (enumD ds)) ∨ (∃ xs, SqT K H p xs ∧ Src W (Itet K p) G (enumD ds))) := by
  have go : ∀ {xs : List D} {vs : List V}, xs.length = vs.length → (∀ (i : Nat) (d : D) (v : V), xs[i]? = some d → vs[i]? = some v → RpD W.C G d v) → ∀ (i : Nat) (G' H' : Hp) (x : V) (H2 : Hp), i < (enumD xs).length → Sub G G' → Sub G' H' → TabOk W H' →
      (∃ T y, x = .ref T ∧ H' T = none ∧ H2 = upd H' T (.tup [.int (i : Nat), y]) ∧ vs[i]? = some y) → ∃ G2 d, (enumD xs)[i]? = some d ∧ Step W G' H' Emp G2 H2 Emp ∧ RpD W.C G2 d x := by
    intro xs vs l h i G' H' x H2 hi s1 s2 tb y
    obtain ⟨T, y, rfl, hT, rfl, hy⟩ := y
    rw [enumD_length] at hi
    have r1 := (h i _ y (List.getElem?_eq_getElem hi) hy).sub s1
    have hg : G' T = none := none_of_le s2 hT
    refine ⟨_, _, enumD_get (List.getElem?_eq_getElem hi), step_sh s2 tb hT, RpDs.tup (upd_same) ?_⟩
    exact .cons (.int _) (.cons (r1.sub (sub_upd hg)) .nil)
  cases r with
  | lst h l k =>
    cases e
    refine ⟨_, rfl, .inl ⟨_, SqL.of (le _ _ h), _, _, by rw [enumD_length, l]; exact walk_enum, fun H' s => SqL.of (s _ _ h), fun i G' H' x H2 hi s1 s2 tb y => go l k i G' H' x H2 hi s1 s2 tb ?_⟩⟩
    obtain ⟨T, x', y, h1, h2, h3, h4, h5⟩ := y
    cases h4
    exact ⟨T, y, h1, h2, h3, h5⟩
  | @tup m xs p vs h l k =>
    cases e
    refine ⟨_, rfl, .inr ⟨_, .inl (Rd.sub le h.rd), fun H' => SqT K H' p vs, fun i H v H' => ∃ T x, v = .ref T ∧ H T = none ∧ H' = upd H T (.tup [.int (i : Nat), x]) ∧ vs[i]? = some x, ⟨fun i H' hi q => ?_, fun H' q => ?_, fun i H' x H2 hi q y => ?_⟩, fun H' s => .inl (Rd.sub s h.rd), fun i G' H' x H2 hi s1 s2 tb y => go l k i G' H' x H2 hi s1 s2 tb ?_⟩⟩
    · rw [enumD_length, l] at hi
      exact ⟨vs, vs[i], q, List.getElem?_eq_getElem hi⟩
    · rw [enumD_length, l]
      exact ⟨vs, q, Nat.le_refl _⟩
    · obtain ⟨T, x', h1, h2, h3, h4⟩ := y
      exact ⟨T, x', h1, h2, h3, h4 vs q⟩
    · exact y
  | _ => cases e
def jEnum (f : En → RP) : En → R Unit (List D) := fun env => (f env).bind fun x => ofO ((itD x).map enumD)
theorem SJ_enum {e : Expr} {f : En → RP} {p pos tpos : Pos} {elts : List Expr} {kk : Nat} (hg : Gl X "enumerate") (hm : X.mg "enumerate" = none) (h : SP X W Wx f e) (hs : starEach [e] X.env = [(false, eval e X.env)] := by rfl)
    (hs2 : starEach [e] X.env = (false, eval e X.env) :: starEach [] X.env := by rfl) : SJ X W Wx (.Tuple elts kk tpos) (jEnum f) (.Call (.Name "enumerate" p) [e] [] pos) := fun env => (pi_enS hg hm (h env) hs hs2).imp fun σ H R => by
  rintro ⟨G, Fs, S, q⟩
  refine ⟨G, Fs, S, ?_⟩
  unfold jEnum at q
  cases e1 : f env with
  | stk => rw [e1] at q; exact q
  | exc c u => rw [e1] at q; exact q
  | ok x =>
    rw [e1, bind_ok] at q
    intro v G1 H1 F1 s1 r1
    cases x with
    | sh d =>
      cases e2 : asSeq d with
      | none => rw [show itD (.sh d) = none from e2] at q; exact q.elim
      | some ds =>
        rw [show itD (.sh d) = some ds from e2] at q
        obtain ⟨p, rfl, h⟩ := src_enum (K := X.K) (H := H1) s1.le (rp_sh r1) e2
        refine ⟨p, rfl, ?_⟩
        rcases h with ⟨xs, h1, h2⟩ | ⟨xs, h1, h2⟩
        · exact .inl ⟨xs, h1, q _ G1 H1 s1 h2⟩
        · exact .inr ⟨xs, h1, q _ G1 H1 s1 h2⟩
    | _ => exact q.elim
/-! ranges -/
def rngD (a b : Int) : List D := (List.range (b - a).toNat).map fun (i : Nat) => D.int (a + (i : Nat))
theorem src_range {a b : Int} : Src W (Itr a (b - a).toNat) G (rngD a b) := by
  have hl : (rngD a b).length = (b - a).toNat := by unfold rngD; rw [List.length_map, List.length_range]
  refine ⟨_, _, by rw [hl]; exact walk_range, fun _ _ => trivial, fun i G' H' x H2 hi s1 s2 tb y => ?_⟩
  obtain ⟨rfl, rfl⟩ := y
  rw [hl] at hi
  refine ⟨G', .int (a + (i : Nat)), ?_, Step.refl s2 tb, .int _⟩
  unfold rngD
  rw [List.getElem?_map, List.getElem?_range hi]; rfl
def jRange1 (f : En → RP) : En → R Unit (List D) := fun env => (f env).bind fun x => ofO ((asI x).bind fun j => if okI j then some (rngD 0 j) else none)
theorem SJ_range1 {tg e : Expr} {f : En → RP} {p pos : Pos} (hg : Gl X "range") (hm : X.mg "range" = none) (h : SP X W Wx f e) (hs : starEach [e] X.env = [(false, eval e X.env)] := by rfl)
    (hs2 : starEach [e] X.env = (false, eval e X.env) :: starEach [] X.env := by rfl) : SJ X W Wx tg (jRange1 f) (.Call (.Name "range" p) [e] [] pos) := fun env => (pi_range1 hg hm (pa_cons (h env) pa_nil hs2) hs).imp fun σ H R => by
  rintro ⟨G, Fs, S, q⟩
  refine ⟨G, Fs, S, ?_⟩
  unfold jRange1 at q
  cases e1 : f env with
  | stk => rw [e1] at q; exact q
  | exc c u => rw [e1] at q; exact q
  | ok x =>
    rw [e1, bind_ok] at q
    intro v G1 H1 F1 s1 r1
    cases e2 : asI x with
    | none => rw [e2] at q; exact q.elim
    | some j =>
      rw [e2, Option.bind_some] at q
      rw [asI_some e2] at r1
      cases hk : okI j with
      | false => rw [hk, if_neg (by decide)] at q; exact q.elim
      | true =>
        rw [hk, if_pos rfl] at q
        obtain ⟨h1, h2⟩ := okI_ok hk
        refine ⟨j, by rw [rp_int r1], h1, h2, ?_⟩
        have := q (Itr 0 j.toNat) G1 H1 s1 (by have := src_range (W := W) (G := G1) (a := 0) (b := j); rwa [Int.sub_zero] at this)
        exact this
def jRange2 (f g : En → RP) : En → R Unit (List D) := fun env => (f env).bind fun x => (g env).bind fun y => ofO ((asI x).bind fun i => (asI y).bind fun j => if okI i && okI j then some (rngD i j) else none)
theorem SJ_range2 {tg a b : Expr} {f g : En → RP} {p pos : Pos} (hg : Gl X "range") (hm : X.mg "range" = none) (ha : SP X W Wx f a) (hb : SP X W Wx g b) (hs : starEach [a, b] X.env = [(false, eval a X.env), (false, eval b X.env)] := by rfl) (hs2 : starEach [b] X.env = [(false, eval b X.env)] := by rfl)
    (hs3 : starEach [a, b] X.env = (false, eval a X.env) :: starEach [b] X.env := by rfl) (hs4 : starEach [b] X.env = (false, eval b X.env) :: starEach [] X.env := by rfl) : SJ X W Wx tg (jRange2 f g) (.Call (.Name "range" p) [a, b] [] pos) := fun env => (pi_range2 hg hm (pa_cons (ha env) (pa_cons (hb env) pa_nil hs4) hs3) hs hs2).imp fun σ H R => by
  rintro ⟨G, Fs, S, q⟩
  refine ⟨G, Fs, S, ?_⟩
  unfold jRange2 at q
  cases e1 : f env with
  | stk => rw [e1] at q; exact q
  | exc c u => rw [e1] at q; exact q
  | ok x =>
    rw [e1, bind_ok] at q
    intro v G1 H1 F1 s1 r1
    refine ⟨G1, Fs, S.step0 s1, ?_⟩
    cases e2 : g env with
    | stk => rw [e2] at q; exact q
    | exc c u => rw [e2] at q; exact fun G' H' s => q G' H' (s1.trans s)
    | ok y =>
      rw [e2, bind_ok] at q
      intro u G2 H2 F2 s2 r2
      cases e3 : asI x with
      | none => rw [e3] at q; exact q.elim
      | some i =>
        rw [e3, Option.bind_some] at q
        cases e4 : asI y with
        | none => rw [e4] at q; exact q.elim
        | some j =>
          rw [e4, Option.bind_some] at q
          rw [asI_some e3] at r1
          rw [asI_some e4] at r2
          cases hk : okI i && okI j with
          | false => rw [hk, if_neg (by decide)] at q; exact q.elim
          | true =>
            rw [hk, if_pos rfl] at q
            rw [Bool.and_eq_true] at hk
            obtain ⟨h1, h2⟩ := okI_ok hk.1
            obtain ⟨h3, h4⟩ := okI_ok hk.2
            exact ⟨i, j, by rw [rp_int r1, rp_int r2], ⟨h1, h2, h3, h4⟩, q (Itr i (j - i).toNat) G2 H2 (s1.trans s2) src_range⟩
/-! ### a list in a slot, walked while nothing changes -/
def SrcK (W : Wd) (J : It) (G Kp : Hp) (ds : List D) : Prop := ∃ (Gd : Hp → Prop) (Y : Nat → Hp → V → Hp → Prop), Walk J ds.length Gd Y ∧ (∀ H, Sub G H → Sub Kp H → Gd H) ∧
  ∀ (i : Nat) (G' H' : Hp) (x : V) (H2 : Hp), i < ds.length → Sub G G' → Sub G' H' → TabOk W H' → Y i H' x H2 → ∃ G2 d, ds[i]? = some d ∧ Step W G' H' Emp G2 H2 Emp ∧ RpD W.C G2 d x
theorem Src.k {J : It} {ds : List D} (h : Src W J G ds) : SrcK W J G (fun _ => none) ds := by
  obtain ⟨Gd, Y, w, h1, h2⟩ := h
  exact ⟨Gd, Y, w, fun H s _ => h1 H s, h2⟩
def tJk (W : Wd) (Wx : WX) (env : En) (r : R Unit (List D)) : TI := fun σ H R => ∃ G Fs, Sim W G env σ H Fs ∧ match r with
  | .ok ds => ∀ J G' H' Kp, Step W G H Emp G' H' Emp → Sub Kp H' → (∀ a o, Kp a = some o → NoTbl o) → SrcK W J G' Kp ds → R J H'
  | .exc c _ => ∀ G' H', Step W G H Emp G' H' Emp → Wx (.ref (W.C.cls c)) none σ H'
  | .stk => False
def SJk (X : Cx) (W : Wd) (Wx : WX) (tg : Expr) (f : En → R Unit (List D)) (iter : Expr) : Prop := ∀ env, PI X tg iter (tJk W Wx env (f env))
theorem SJ.k {tg iter : Expr} {f : En → R Unit (List D)} (h : SJ X W Wx tg f iter) : SJk X W Wx tg f iter := fun env => (h env).imp fun σ H R => by
  rintro ⟨G, Fs, S, q⟩
  refine ⟨G, Fs, S, ?_⟩
  cases e1 : f env with
  | ok ds => rw [e1] at q; exact fun J G' H' s src => q J G' H' (fun _ => none) s (fun _ _ h => by cases h) (fun _ _ h => by cases h) src.k
  | exc c u => rw [e1] at q; exact q
  | stk => rw [e1] at q; exact q
def jOwn (i : Nat) : En → R Unit (List D) := fun env => match gt env i with
  | some (.lst xs) => ofO (allSh xs)
  | _ => .stk
theorem SJk_own (i : Nat) {tg : Expr} {x : Str} {pos : Pos} (hN : X.N[i]? = some x := by rfl) (hv : Vis X.env.scope x := by first | exact Or.inl rfl | exact Or.inr (Or.inl rfl) | exact Or.inr (Or.inr rfl)) (hd : (x == ("__debug__" : Str)) = false := by decide)
    (hcd : (x == ("__classdict__" : Str)) = false := by decide) : SJk X W Wx tg (jOwn i) (.Name x pos) := fun env => (pi_seq (pe_var hN hv hd hcd)).imp fun σ H R => by
  rintro ⟨G, Fs, S, q⟩
  unfold jOwn at q
  cases e1 : gt env i with
  | none => rw [e1] at q; exact q.elim
  | some o =>
    rw [e1] at q
    obtain ⟨v, h1, r⟩ := S.rp i o (gt_some e1)
    cases o with
    | lst xs =>
      cases r with
      | @lst _ p vs _ Fa g h l k dj bd hF =>
        refine ⟨_, h1, p, rfl, .inl ⟨⟨vs, SqL.of h⟩, ?_⟩⟩
        dsimp only at q
        cases e2 : allSh xs with
        | none => rw [e2] at q; exact q.elim
        | some ds =>
          rw [e2] at q
          have ex := allSh_some e2
          have hv : RpDs W G ds vs := RpDs.of (H := H) (by
            rw [← ex]
            exact paired_of l fun i d v h1 h2 => ⟨Fa i, k i d v h1 h2⟩)
          refine q (Itl X.K p) G H (fun a => if a = p then some (.lst vs) else none) S.refl (fun a o e => ?_) (fun a o e => ?_) ⟨fun H' => SqL X.K H' p vs, YAt vs, by rw [hv.length]; exact walk_list, fun H' s1 s2 => SqL.of (s2 p _ (if_pos rfl)), fun i G' H' x H2 hi s1 s2 tb y => ?_⟩
          · replace e : (if a = p then some (HO.lst vs) else none) = some o := e
            split at e
            · rename_i ea; cases e; rw [ea]; exact h
            · cases e
          · replace e : (if a = p then some (HO.lst vs) else none) = some o := e
            split at e
            · cases e; intro ps e; cases e
            · cases e
          · obtain ⟨rfl, hx⟩ := y
            exact ⟨G', ds[i], List.getElem?_eq_getElem hi, Step.refl s2 tb, (paired_get' hv i _ x (List.getElem?_eq_getElem hi) hx).sub s1⟩
    | _ => exact q.elim
end
end
end FD


set_option Elab.async false
set_option linter.all false
set_option maxRecDepth 100000
/-! F7: list comprehensions. -/
namespace FD
noncomputable section
open PySem PySem.Spec L2

def WxF : WX := fun _ _ _ _ => False
/-- .. for the context within a comprehension -/
abbrev Bk (X : Cx) (scope : Scope) (p : Cx → Prop) : Prop := ∀ (s : Shared) (H : Hp) (C : Addr) (cl : List (Str × Addr)) (fp : List Addr), p (X.blk s H scope (compEnvC scope cl C X.env) fp)
def wipeE (env : En) : List Nat → En
  | [] => env
  | v :: vs => (wipeE env vs).set v none
def shOf : Option O → Option O
  | some (.sh d) => some (.sh d)
  | _ => none
def restE (env0 env : En) : List Nat → En
  | [] => env
  | v :: vs => (restE env0 env vs).set v (shOf (gt env0 v))
section
variable {X : Cx} {W : Wd} {Wx : WX} {pr : List Nat} {G G' H H' : Hp} {env env' : En} {σ σ' : St} {Fs Fs' : Nat → Fp} {F F' : Fp}
theorem Sim.setN (S : Sim W G env σ H Fs) (i : Nat) : Sim W G (env.set i none) σ H Fs where
  le := S.le
  len := by rw [List.length_set]; exact S.len
  rp := fun j d e => by
    by_cases h : i = j
    · subst h
      have hl : i < env.length := by
        have h1 := (List.getElem?_eq_some_iff.mp e).1
        rw [List.length_set] at h1
        exact h1
      rw [List.getElem?_set_self hl] at e
      cases e
    · rw [List.getElem?_set_ne h] at e
      exact S.rp j d e
  dj := S.dj
  ow := S.ow
  tb := S.tb
theorem Sim.setS (S : Sim W G env σ H Fs) (i : Nat) (v : Option V) (h : gt env i = none) : Sim W G env (σ.set i v) H Fs where
  le := S.le
  len := by rw [List.length_set]; exact S.len
  rp := fun j d e => by
    by_cases hj : i = j
    · subst hj
      unfold gt at h
      rw [e] at h
      cases h
    · obtain ⟨w, h1, h2⟩ := S.rp j d e
      exact ⟨w, by rw [List.getElem?_set_ne hj]; exact h1, h2⟩
  dj := S.dj
  ow := S.ow
  tb := S.tb
theorem gt_setN (env : En) (i : Nat) : gt (env.set i none) i = none := by
  unfold gt
  by_cases h : i < env.length
  · rw [List.getElem?_set_self h]
  · rw [List.getElem?_eq_none (by rw [List.length_set]; omega)]
theorem Sim.wipe (S : Sim W G env σ H Fs) : ∀ vs : List Nat, Sim W G (wipeE env vs) (L2.wipe σ vs) H Fs
  | [] => S
  | v :: vs => ((S.wipe vs).setN v).setS v none (gt_setN _ v)
theorem wipeE_length (env : En) : ∀ vs : List Nat, (wipeE env vs).length = env.length
  | [] => rfl
  | v :: vs => by unfold wipeE; rw [List.length_set, wipeE_length env vs]
/-- the slots of the comprehension are as they were -/
theorem Sim.rest {env0 : En} {σ0 : St} {G0 H0 : Hp} {Fs0 : Nat → Fp} (S0 : Sim W G0 env0 σ0 H0 Fs0) (sg : Sub G0 G) : ∀ {vs : List Nat} {env : En} {Fs : Nat → Fp}, Sim W G env (L2.wipe σ0 vs) H Fs → ∃ Fs', Sim W G (restE env0 env vs) σ0 H Fs' ∧ (∀ a, All Fs' a → All Fs a)
  | [], env, Fs, S => ⟨Fs, S, fun _ h => h⟩
  | v :: vs, env, Fs, S => by
    have hn : ∀ u d, (env.set v none)[u]? = some (some d) → u ≠ v ∧ env[u]? = some (some d) := fun u d e => by
      by_cases h : v = u
      · subst h
        have hl : v < env.length := by
          have h1 := (List.getElem?_eq_some_iff.mp e).1
          rw [List.length_set] at h1
          exact h1
        rw [List.getElem?_set_self hl] at e
        cases e
      · rw [List.getElem?_set_ne h] at e
        exact ⟨fun q => h q.symm, e⟩
    have S1 : Sim W G (env.set v none) (L2.wipe σ0 vs) H Fs := ⟨S.le, by
      have := S.len
      rw [wipe_length] at this ⊢
      rw [List.length_set]; exact this, fun u d e => by
      obtain ⟨h1, h2⟩ := hn u d e
      obtain ⟨w, h3, h4⟩ := S.rp u d h2
      refine ⟨w, ?_, h4⟩
      have : L2.wipe σ0 (v :: vs) = (L2.wipe σ0 vs).set v none := rfl
      rw [this, List.getElem?_set_ne (Ne.symm h1)] at h3
      exact h3, S.dj, S.ow, S.tb⟩
    obtain ⟨Fs2, S2, sub⟩ := Sim.rest S0 sg S1
    have e : restE env0 env (v :: vs) = (restE env0 env vs).set v (shOf (gt env0 v)) := rfl
    have hc : ∀ (vs : List Nat) (env : En), (restE env0 (env.set v none) vs).set v (shOf (gt env0 v)) = (restE env0 env vs).set v (shOf (gt env0 v)) := by
      intro vs
      induction vs with
      | nil => intro env; show (env.set v none).set v _ = env.set v _; rw [List.set_set]
      | cons u us ih =>
        intro env
        show ((restE env0 (env.set v none) us).set u _).set v _ = ((restE env0 env us).set u _).set v _
        by_cases h : u = v
        · subst h
          rw [List.set_set, List.set_set]; exact ih env
        · rw [List.set_comm _ _ h, List.set_comm _ _ h, ih env]
    rw [e, ← hc]
    cases hs : shOf (gt env0 v) with
    | none => exact ⟨Fs2, S2.setN v, sub⟩
    | some x =>
      cases hg : gt env0 v with
      | none => rw [hg] at hs; cases hs
      | some y =>
        rw [hg] at hs
        cases y with
        | sh d =>
          cases hs
          obtain ⟨w, h1, h2⟩ := S0.rp v _ (gt_some hg)
          have r : RpO W.C G H (.sh d) w Emp := .sh ((rp_sh h2).sub sg) fun _ h => h
          have S3 := S2.set (i := v) r fun _ _ h => h.elim
          have es : σ0.set v (some w) = σ0 := by
            apply List.ext_getElem?
            intro j
            by_cases hj : v = j
            · subst hj
              rw [List.getElem?_set_self (List.getElem?_eq_some_iff.mp h1).1, h1]
            · rw [List.getElem?_set_ne hj]
          rw [es] at S3
          refine ⟨_, S3, fun a h => ?_⟩
          rcases all_set a h with h | h
          · exact h.elim
          · exact sub a h
        | _ => cases hs

/-! ### tests within -/
theorem PTs_nil {Wx : WX} : ∀ env, PTs X [] (tT W Wx env ((fun _ => .ok true : En → RB) env)) := fun env => ⟨fun pins s σ H Q I q => pts_nil.run pins s σ H Q I (by
  obtain ⟨G, Fs, S, q⟩ := q
  exact q G H S.refl)⟩
def STs (X : Cx) (W : Wd) (Wx : WX) (f : En → RB) (es : List Expr) : Prop := ∀ env, PTs X es (tT W Wx env (f env))
def SUs (X : Cx) (W : Wd) (Wx : WX) (f : En → R En (Bool × En)) (es : List Expr) : Prop := ∀ env, PTs X es (tU W Wx env (f env))
def bYes : En → RB := fun _ => .ok true
def uYes : En → R En (Bool × En) := fun env => .ok (true, env)
theorem STs_nil : STs X W Wx bYes [] := fun env => PTs_nil env
theorem STs_one {f : En → RB} {c : Expr} (h : ST X W Wx f c) : STs X W Wx f [c] := fun env => pts_one (h env)
theorem SUs_nil : SUs X W Wx uYes [] := fun env => ⟨fun pins s σ H Q I q => pts_nil.run pins s σ H Q I (by
  obtain ⟨G, Fs, S, q⟩ := q
  exact q G H Fs S.refl S)⟩
theorem SUs_one {f : En → R En (Bool × En)} {c : Expr} (h : SU X W Wx f c) : SUs X W Wx f [c] := fun env => pts_one (h env)
theorem PTs_any {α : Type} {es : List Expr} {t : α → TT} (h : ∀ a, PTs X es (t a)) : PTs X es (fun σ H Q => ∃ a, t a σ H Q) := ⟨fun pins s σ H Q I ⟨a, q⟩ => (h a).run pins s σ H Q I q⟩
theorem PE_any {α : Type} {e : Expr} {t : α → TE} (h : ∀ a, PE X e (t a)) : PE X e (fun σ H Q => ∃ a, t a σ H Q) := ⟨fun pins s σ H Q I ⟨a, q⟩ => (h a).run pins s σ H Q I q⟩

/-! ### a target by itself -/
def tgR (W : Wd) (pr : List Nat) (tgt : D → En → Option En) (g : TG) : Prop := ∀ (G : Hp) (env env' : En) (σ : St) (H : Hp) (Fs : Nat → Fp) (d : D) (v : V) (Q : St → Hp → Prop), Sim W G env σ H Fs → RpD W.C G d v → tgt d env = some env' →
  (∀ σ' Fs', Sim W G env' σ' H Fs' → (∀ a, All Fs' a → All Fs a) → Pr pr σ σ' → Q σ' H) → g v σ H Q
/-- what is written at the slots vs alone -/
def outs (vs : List Nat) (n : Nat) : List Nat := (List.range n).filter fun i => !vs.contains i
theorem wipe_of {vs : List Nat} {σ σ' : St} (h : Pr (outs vs σ.length) (wipe σ vs) σ') : wipe σ' vs = wipe σ vs := by
  have hl : σ'.length = σ.length := by rw [h.1, wipe_length]
  apply List.ext_getElem?
  intro j
  by_cases hj : j ∈ vs
  · have key : ∀ (vs : List Nat) (σ : St), j ∈ vs → j < σ.length → (wipe σ vs)[j]? = some none := by
      intro vs
      induction vs with
      | nil => intro σ h; simp at h
      | cons u us ih =>
        intro σ h hl
        show ((wipe σ us).set u none)[j]? = _
        by_cases hu : u = j
        · subst hu
          rw [List.getElem?_set_self (by rw [wipe_length]; exact hl)]
        · rw [List.getElem?_set_ne hu]
          rcases List.mem_cons.mp h with e | e
          · exact absurd e.symm hu
          · exact ih σ e hl
    by_cases hl2 : j < σ.length
    · rw [key vs σ hj hl2, key vs σ' hj (by rw [hl]; exact hl2)]
    · rw [List.getElem?_eq_none (by rw [wipe_length, hl]; omega), List.getElem?_eq_none (by rw [wipe_length]; omega)]
  · rw [wipe_out hj, wipe_out hj]
    by_cases hl2 : j < σ.length
    · have := h.2 j (by unfold outs; rw [List.mem_filter]; exact ⟨List.mem_range.mpr hl2, by simpa using hj⟩)
      rw [this, wipe_out hj]
    · rw [List.getElem?_eq_none (by rw [hl]; omega), List.getElem?_eq_none (by omega)]

/-- the list made so far -/
structure Acc (W : Wd) (G H : Hp) (acc : List O) (D : Addr) (F : Fp) : Prop where
  rp : RpO W.C G H (.lst acc) (.ref D) F
theorem acc_new (le : Sub G H) (b : TabOk W H) {p : Addr} (hp : H p = none) : Step W G H Emp G (upd H p (.lst [])) (fun a => a = p) ∧ RpO W.C G (upd H p (.lst [])) (.lst []) (.ref p) (fun a => a = p) :=
  ⟨step_own le b hp, RpDs.own (xs := []) (none_of_le le hp) upd_same .nil⟩
/-- one more at the end -/
theorem acc_push {acc : List O} {p : Addr} {F F1 : Fp} {x : O} {v : V} (r : RpO W.C G H (.lst acc) (.ref p) F) (r1 : RpO W.C G H x v F1) (le : Sub G H) (b : TabOk W H) (dj : ∀ a, F1 a → ¬ F a) :
    ∃ vs, H p = some (.lst vs) ∧ vs.length = acc.length ∧ Step W G H (fun a => F a ∨ F1 a) G (upd H p (.lst (vs ++ [v]))) (fun a => F a ∨ F1 a) ∧ RpO W.C G (upd H p (.lst (vs ++ [v]))) (.lst (acc ++ [x])) (.ref p) (fun a => F a ∨ F1 a) := by
  have own1 := r1.own
  have own := r.own
  cases r with
  | @lst _ _ vs _ Fa g h l k dja ba hF =>
    have hpF : F p := (hF p).mpr (.inl rfl)
    have n1 : ¬ F1 p := fun h1 => dj p h1 hpF
    have keep : ∀ {y : O} {u : V} {F2 : Fp}, RpO W.C G H y u F2 → ¬ F2 p → RpO W.C G (upd H p (.lst (vs ++ [v]))) y u F2 := fun r2 n2 => r2.keep (fun _ _ h => h) fun a ha => ⟨(r2.own a ha).1, upd_ne fun e => n2 (e ▸ ha)⟩
    refine ⟨vs, h, l.symm, ⟨fun _ _ h => h, fun a o ha nf _ => ?_, fun a ha => ?_, fun a ha => .inl ha, fun a ha => .inl ha, fun a o ha => ?_, fun P hP => ?_⟩, ?_⟩
    · rw [upd_ne fun (e : a = p) => nf (.inl (by rw [e]; exact hpF))]; exact ha
    · by_cases e : a = p
      · subst e; rw [upd_same]; simp
      · rw [upd_ne e]; exact ha
    · rw [upd_ne fun e => by rw [e, g] at ha; cases ha]; exact le a o ha
    · obtain ⟨ps, h1, h2⟩ := b P hP
      exact ⟨ps, by rw [upd_ne fun e => by rw [e, h] at h1; cases h1]; exact h1, h2⟩
    · refine .lst (fun i => if i = acc.length then F1 else Fa i) g upd_same (by simp [l]) (fun i d u e1 e2 => ?_) (fun i j a hij h1 h2 => ?_) (fun i a h1 => ?_) (fun a => ⟨fun h => ?_, fun h => ?_⟩)
      · by_cases hi : i = acc.length
        · subst hi
          rw [List.getElem?_concat_length] at e1
          rw [l, List.getElem?_concat_length] at e2
          cases e1; cases e2
          rw [if_pos rfl]
          exact keep r1 n1
        · rw [if_neg hi]
          have hlt : i < acc.length := by
            have := (List.getElem?_eq_some_iff.mp e1).1
            rw [List.length_append, List.length_singleton] at this
            omega
          rw [List.getElem?_append_left hlt] at e1
          rw [List.getElem?_append_left (by rw [← l]; exact hlt)] at e2
          exact keep (k i d u e1 e2) fun q => (ba i p q).2 rfl
      · by_cases hi : i = acc.length
        · by_cases hj : j = acc.length
          · exact hij (hi.trans hj.symm)
          · simp only [hi, hj, if_true, if_false] at h1 h2
            exact dj a h1 ((hF a).mpr (.inr ⟨j, h2⟩))
        · by_cases hj : j = acc.length
          · simp only [hi, hj, if_true, if_false] at h1 h2
            exact dj a h2 ((hF a).mpr (.inr ⟨i, h1⟩))
          · simp only [hi, hj, if_false] at h1 h2
            exact dja i j a hij h1 h2
      · by_cases hi : i = acc.length
        · simp only [hi, if_true] at h1
          refine ⟨by rw [hi, List.length_append, List.length_singleton]; omega, fun e => n1 (e ▸ h1)⟩
        · simp only [hi, if_false] at h1
          obtain ⟨q1, q2⟩ := ba i a h1
          exact ⟨by rw [List.length_append, List.length_singleton]; omega, q2⟩
      · rcases h with h | h
        · rcases (hF a).mp h with h | ⟨i, h⟩
          · exact .inl h
          · refine .inr ⟨i, ?_⟩
            have hi := (ba i a h).1
            simp only [Nat.ne_of_lt hi, if_false]
            exact h
        · exact .inr ⟨acc.length, by simp only [if_true]; exact h⟩
      · rcases h with h | ⟨i, h⟩
        · exact .inl ((hF a).mpr (.inl h))
        · by_cases hi : i = acc.length
          · simp only [hi, if_true] at h
            exact .inr h
          · simp only [hi, if_false] at h
            exact .inl ((hF a).mpr (.inr ⟨i, h⟩))

theorem _root_.L2.PE.imp' {X : Cx} {e : Expr} {t t' : TE} (h : PE X e t) (hi : ∀ pins s σ H Q, Inv X pins σ H s → t' σ H Q → t σ H Q) : PE X e t' := ⟨fun pins s σ H Q I q => h.run pins s σ H Q I (hi pins s σ H Q I q)⟩
/-! ### pure comprehensions -/
def lcP (tgt : D → En → Option En) (tt : En → RB) (elt : En → RP) (env : En) : List D → List O → RP
  | [], acc => .ok (.lst acc)
  | d :: ds, acc => match tgt d env with
    | none => .stk
    | some e1 => match tt e1 with
      | .ok true => match elt e1 with
        | .ok x => lcP tgt tt elt env ds (acc ++ [x])
        | _ => .stk
      | .ok false => lcP tgt tt elt env ds acc
      | _ => .stk
def szOk (n : Nat) : Bool := decide (n ≤ lim)
theorem szOk_sz {n : Nat} (h : szOk n = true) : n ≤ sizeLine := lim_le (of_decide_eq_true h)
def bLc (vs : List Nat) (it : En → R Unit (List D)) (tgt : D → En → Option En) (tt : En → RB) (elt : En → RP) : En → RP := fun env => (it env).bind fun ds => if szOk ds.length then lcP tgt tt elt (wipeE env vs) ds [] else .stk
theorem lcP_len {tgt : D → En → Option En} {tt : En → RB} {elt : En → RP} {env : En} : ∀ {ds : List D} {acc : List O} {x : O}, lcP tgt tt elt env ds acc = .ok x → ∃ ys, x = .lst ys ∧ acc.length ≤ ys.length := by
  intro ds
  induction ds with
  | nil => intro acc x h; cases h; exact ⟨acc, rfl, Nat.le_refl _⟩
  | cons d ds ih =>
    intro acc x h
    unfold lcP at h
    split at h
    · cases h
    · split at h
      · split at h
        · obtain ⟨ys, e, hl⟩ := ih h
          rw [List.length_append, List.length_singleton] at hl
          exact ⟨ys, e, by omega⟩
        · cases h
      · exact ih h
      · cases h

def tG (W : Wd) (pr : List Nat) (tgt : D → En → Option En) : TG := fun v σ H Q => ∃ G env env' Fs d, Sim W G env σ H Fs ∧ RpD W.C G d v ∧ tgt d env = some env' ∧ ∀ σ' Fs', Sim W G env' σ' H Fs' → (∀ a, All Fs' a → All Fs a) → Pr pr σ σ' → Q σ' H
theorem SG.pg {tgt : D → En → Option En} {tg : Expr} (h : SG X W pr tgt tg) : PG X tg (tG W pr tgt) := by
  obtain ⟨g, p, k⟩ := h
  refine ⟨fun pins s σ H v u Q I r q => ?_⟩
  obtain ⟨G, env, env', Fs, d, S, rd, e, q⟩ := q
  exact p.run pins s σ H v u Q I r (k G env env' σ H Fs d v Q S rd e q)
theorem lcP_core {n : Nat} {vs : List Nat} {Q : VK} {it : En → R Unit (List D)} {tgt : D → En → Option En} {tt : En → RB} {el : En → RP} (hlen : σ.length = n) (q : tV W Wx env (bLc vs it tgt tt el env) σ H Q) :
    tLc (tJk W Wx env (it env)) (tG W (outs vs n) tgt) (fun σ H Q => ∃ a, tT W WxF a (tt a) σ H Q) (fun σ H Q => ∃ a, tV W WxF a (el a) σ H Q) vs σ H Q := by
  obtain ⟨G, Fs, S, q⟩ := q
  refine ⟨G, Fs, S, ?_⟩
  unfold bLc at q
  cases e1 : it env with
  | stk => rw [e1] at q; exact q
  | exc c u => rw [e1] at q; exact q
  | ok ds =>
    rw [e1, bind_ok] at q
    intro J G1 H1 Kp s1 kp nt src D hD
    cases hz : szOk ds.length with
    | false => rw [hz, if_neg (by decide)] at q; exact q.elim
    | true =>
    rw [hz, if_pos rfl] at q
    have hz : ds.length ≤ sizeLine := szOk_sz hz
    generalize hZ : lcP tgt tt el (wipeE env vs) ds [] = Z at q
    obtain ⟨Gd, Y, w, hGd, hY⟩ := id src
    obtain ⟨sA, rA⟩ := acc_new s1.le s1.b hD
    have S1 := S.step0 s1
    refine lc_it (g := tG W (outs vs n) tgt) (tt := fun σ H Q => ∃ a, tT W WxF a (tt a) σ H Q) (te := fun σ H Q => ∃ a, tV W WxF a (el a) σ H Q) (vs := vs) (σ := σ) (H1 := H1) (D := D) (Qd := fun H => Q (.ref D) H) w (fun i H' => ∃ G2 acc FD, Sim W G2 (wipeE env vs) (wipe σ vs) H' Fs ∧ Sub G1 G2 ∧ RpO W.C G2 H' (.lst acc) (.ref D) FD ∧ acc.length ≤ i ∧ (∀ j a, Fs j a → ¬ FD a) ∧ Step W G1 H1 Emp G2 H' FD ∧ Sub Kp H' ∧
      Z = lcP tgt tt el (wipeE env vs) (ds.drop i) acc) ?_ ?_ ?_ ?_
    · refine ⟨G1, [], fun a => a = D, (S1.step0 sA).wipe _, fun _ _ h => h, rA, Nat.le_refl _, fun j a h e => ?_, sA, fun a o h => sA.h a o (kp a o h) (fun h => h) (nt a o h), hZ.symm⟩
      obtain ⟨_, o, h2, _⟩ := S1.ow j a h
      rw [e, hD] at h2; cases h2
    · rintro i H' hi' ⟨G2, acc, FD, S2, sb, _, _, _, _, kp', _⟩
      exact hGd H' (fun a o h => S2.le a o (sb a o h)) kp'
    · rintro i x H' H2 hi' ⟨G2, acc, FD, S2, sb, rD, hl, dj, st, kp', eq⟩ hy
      obtain ⟨G3, d, hd, st3, rd⟩ := hY i G2 H' x H2 hi' sb S2.le S2.tb hy
      have hdr : ds.drop i = d :: ds.drop (i + 1) := by
        obtain ⟨h1, h2⟩ := List.getElem?_eq_some_iff.mp hd
        rw [List.drop_eq_getElem_cons h1, h2]
      rw [hdr] at eq
      unfold lcP at eq
      cases e3 : tgt d (wipeE env vs) with
      | none => rw [e3] at eq; rw [eq] at q; exact q.elim
      | some env1 =>
        rw [e3] at eq
        dsimp only at eq
        refine ⟨G3, _, env1, Fs, d, S2.step0 st3, rd, e3, fun σ2 Fs2 S4 sub4 p4 => ⟨?_, env1, G3, Fs2, S4, ?_⟩⟩
        · exact wipe_of (by rw [hlen]; exact p4)
        · have s3 := st3
          have rD3 := rD.step0 st3
          have st' : Step W G1 H1 Emp G3 H2 FD := st.trans (st3.wide (fun _ h => h.elim) fun a h => .inl h)
          cases e4 : tt env1 with
          | stk => rw [e4] at eq; rw [eq] at q; exact q.elim
          | exc c u => rw [e4] at eq; rw [eq] at q; exact q.elim
          | ok b =>
            rw [e4] at eq
            intro G5 H5 s5
            have rD5 := rD3.step0 s5
            have st5 : Step W G1 H1 Emp G5 H5 FD := st'.trans (s5.wide (fun _ h => h.elim) fun a h => .inl h)
            have S5 := S2.step0 (st3.trans s5)
            have sb5 : Sub G1 G5 := fun a o h => s5.g a o (st3.g a o (sb a o h))
            have kp5 : Sub Kp H5 := fun a o h => s5.h a o (st3.h a o (kp' a o h) (fun h => h) (nt a o h)) (fun h => h) (nt a o h)
            cases b with
            | false =>
              rw [if_neg (by decide)]
              exact ⟨G5, acc, FD, S5, sb5, rD5, by omega, dj, st5, kp5, eq⟩
            | true =>
              rw [if_pos rfl]
              refine ⟨env1, G5, Fs2, S4.step0 s5, ?_⟩
              dsimp only at eq
              cases e5 : el env1 with
              | stk => rw [e5] at eq; rw [eq] at q; exact q.elim
              | exc c u => rw [e5] at eq; rw [eq] at q; exact q.elim
              | ok y =>
                rw [e5] at eq
                intro v G6 H6 F1 s6 r6
                have djF : ∀ a, F1 a → ¬ FD a := fun a h1 h2 => by
                  obtain ⟨_, o, h3, _⟩ := rD5.own a h2
                  rcases s6.f a h1 with z | z
                  · exact z
                  · rw [h3] at z; cases z
                have rD6 := rD5.step0 s6
                obtain ⟨us, hD6, hvl, s7, r7⟩ := acc_push rD6 r6 s6.le s6.b djF
                have S6 := S5.step0 s6
                have dj7 : ∀ j a, Fs j a → ¬ (FD a ∨ F1 a) := fun j a h1 h2 => by
                  rcases h2 with h2 | h2
                  · exact dj j a h1 h2
                  · obtain ⟨_, o, h3, _⟩ := S5.ow j a h1
                    rcases s6.f a h2 with z | z
                    · exact z
                    · rw [h3] at z; cases z
                refine ⟨us, hD6, by omega, G6, acc ++ [y], _, S6.step s7 dj7, fun a o h => s6.g a o (sb5 a o h), r7, by rw [List.length_append, List.length_singleton]; omega, dj7, ?_, fun a o h => s7.h a o (s6.h a o (kp5 a o h) (fun h => h) (nt a o h)) (fun h2 => ?_) (nt a o h), eq⟩
                · exact (st5.trans (s6.wide (fun _ h => h.elim) fun a h => h : Step W G5 H5 FD G6 H6 (fun a => FD a ∨ F1 a))).trans s7
                · rcases h2 with h2 | h2
                  · rcases st.f a h2 with z | z
                    · exact z
                    · rw [kp a o h] at z; cases z
                  · rcases s6.f a h2 with z | z
                    · exact z
                    · rw [kp5 a o h] at z; cases z
    · rintro H' ⟨G2, acc, FD, S2, sb, rD, hl, dj, st, _, eq⟩
      rw [List.drop_length] at eq
      unfold lcP at eq
      rw [eq] at q
      exact q _ G2 H' FD (s1.trans st) rD
theorem SV_lc {elt tg iter : Expr} {ifs : List Expr} {scope : Scope} (own : List (Str × Nat)) {pos : Pos} {it : En → R Unit (List D)} {tgt : D → En → Option En} {tt : En → RB} {el : En → RP} (hc : X.calm = true) (hN : X.N.Nodup) (hi : SJk X W Wx tg it iter)
    (ok : BlkOk X.N X.env.scope scope own) (hg : Bk X scope fun Y => SG Y W (outs (own.map (·.2)) X.N.length) tgt tg) (ht : Bk X scope fun Y => STs Y W WxF tt ifs) (he : Bk X scope fun Y => SV Y W WxF el elt) (hs : ∀ x, foldedSetIterable iter X.env x = pure x := by intro _; rfl) :
    SV X W Wx (bLc (own.map (·.2)) it tgt tt el) (.ListComp elt [⟨tg, iter, ifs, 0⟩] scope pos) := fun env =>
  ((pe_lc hc hN (hi env) ok (fun s H C cl fp => (hg s H C cl fp).pg) (fun s H C cl fp => PTs_any (ht s H C cl fp)) (fun s H C cl fp => PE_any (he s H C cl fp)) hs : PE X (.ListComp elt [⟨tg, iter, ifs, 0⟩] scope pos) _)).imp' fun pins s σ H Q I q => lcP_core I.len q
theorem _root_.L2.PS.imp' {X : Cx} {e : Stmt} {t t' : TS} (h : PS X e t) (hi : ∀ D pins s σ H, Inv X pins σ H s → t' D σ H → t D σ H) : PS X e t' := ⟨fun pins s σ H D I q => h.run pins s σ H D I (hi D pins s σ H I q)⟩
/-- name = [..] -/
theorem SS_setLcP (i : Nat) (fz : Bool) {y : Str} {py : Pos} {spos : Pos} {elt tg iter : Expr} {ifs : List Expr} {scope : Scope} (own : List (Str × Nat)) {pos : Pos} {it : En → R Unit (List D)} {tgt : D → En → Option En} {tt : En → RB} {el : En → RP} (hc : X.calm = true) (hN : X.N.Nodup) (hi : SJk X W Wx tg it iter)
    (ok : BlkOk X.N X.env.scope scope own) (hg : Bk X scope fun Y => SG Y W (outs (own.map (·.2)) X.N.length) tgt tg) (ht : Bk X scope fun Y => STs Y W WxF tt ifs) (he : Bk X scope fun Y => SV Y W WxF el elt)
    (hk : X.env.scope.kind = .function := by rfl) (hl : (py.line == pos.line) = true := by rfl) (ha : (scope.names.any fun (n, k) => n == y && (k == .local || k == .cell)) = false := by decide +kernel)
    (hp : i ∉ pr := by decide) (hy : X.N[i]? = some y := by rfl) (hyl : X.env.scope.names.lookup y = some .local := by rfl) (hs : ∀ x, foldedSetIterable iter X.env x = pure x := by intro _; rfl) :
    SS X W Wx pr (sSet i (pE (if fz then bFrz (bLc (own.map (·.2)) it tgt tt el) else bLc (own.map (·.2)) it tgt tt el))) (.Assign [.Name y py] (.ListComp elt [⟨tg, iter, ifs, 0⟩] scope pos) spos) := fun env =>
  (ps_setLc hc hN hy hyl (sw_true hk hyl hl ha) (hi env) ok (fun s H C cl fp => (hg s H C cl fp).pg) (fun s H C cl fp => PTs_any (ht s H C cl fp)) (fun s H C cl fp => PE_any (he s H C cl fp)) hs).imp' fun D pins s σ H I q => by
    have q2 := tV_tE (set_core hp q)
    have q3 : tV W Wx env (bLc (own.map (·.2)) it tgt tt el env) σ H fun x H1 => D.nx (σ.set i (some x)) H1 := by
      cases fz with
      | true => exact tV_frz q2
      | false => exact q2
    exact lcP_core I.len q3
end
end
end FD


set_option Elab.async false
set_option linter.all false
set_option maxRecDepth 100000
/-! F8: list comprehensions that may change the slots. -/
namespace FD
noncomputable section
open PySem PySem.Spec L2
section
variable {X : Cx} {W : Wd} {Wx : WX} {pr : List Nat} {G G' H H' : Hp} {env env' : En} {σ σ' : St} {Fs Fs' : Nat → Fp} {F F' : Fp}
def lcE (vs : List Nat) (tgt : D → En → Option En) (tt : En → R En (Bool × En)) (elt : En → RE) : List D → List O → En → R En (List O × En)
  | [], acc, env => .ok (acc, env)
  | d :: ds, acc, env => match tgt d env with
    | none => .stk
    | some e1 => match tt e1 with
      | .ok (true, e2) => match elt e2 with
        | .ok (x, e3) => lcE vs tgt tt elt ds (acc ++ [x]) (wipeE e3 vs)
        | _ => .stk
      | .ok (false, e2) => lcE vs tgt tt elt ds acc (wipeE e2 vs)
      | _ => .stk
def eLc (vs : List Nat) (it : En → R En (List D × En)) (tgt : D → En → Option En) (tt : En → R En (Bool × En)) (elt : En → RE) : En → RE := fun env => (it env).bind fun p =>
  if szOk p.1.length then match lcE vs tgt tt elt p.1 [] (wipeE p.2 vs) with
    | .ok (acc, e) => .ok (.lst acc, restE p.2 e vs)
    | _ => .stk
  else .stk
set_option maxHeartbeats 1000000 in
theorem lcE_core {n : Nat} {vs : List Nat} {Q : VK} {it : En → R En (List D × En)} {tgt : D → En → Option En} {tt : En → R En (Bool × En)} {el : En → RE} (hlen : σ.length = n) (q : tE W Wx env (eLc vs it tgt tt el env) σ H Q) :
    tLc (tI W Wx env (it env)) (tG W (outs vs n) tgt) (fun σ H Q => ∃ a, tU W WxF a (tt a) σ H Q) (fun σ H Q => ∃ a, tE W WxF a (el a) σ H Q) vs σ H Q := by
  obtain ⟨G, Fs, S, q⟩ := q
  refine ⟨G, Fs, S, ?_⟩
  unfold eLc at q
  cases e1 : it env with
  | stk => rw [e1] at q; exact q
  | exc c u => rw [e1] at q; exact q
  | ok pp =>
    obtain ⟨ds, env1⟩ := pp
    rw [e1, bind_ok] at q
    intro J G1 H1 Fs1 s1 S1 src D hD
    dsimp only at q
    cases hz : szOk ds.length with
    | false => rw [hz, if_neg (by decide)] at q; exact q.elim
    | true =>
    rw [hz, if_pos rfl] at q
    have hz : ds.length ≤ sizeLine := szOk_sz hz
    generalize hZ : lcE vs tgt tt el ds [] (wipeE env1 vs) = Z at q
    obtain ⟨Gd, Y, w, hGd, hY⟩ := id src
    obtain ⟨sA, rA⟩ := acc_new s1.le s1.b hD
    refine lc_it (g := tG W (outs vs n) tgt) (tt := fun σ H Q => ∃ a, tU W WxF a (tt a) σ H Q) (te := fun σ H Q => ∃ a, tE W WxF a (el a) σ H Q) (vs := vs) (σ := σ) (H1 := H1) (D := D) (Qd := fun H => Q (.ref D) H) w
      (fun i H' => ∃ G2 acc FD env2 Fs2, Sim W G2 env2 (wipe σ vs) H' Fs2 ∧ Sub G1 G2 ∧ RpO W.C G2 H' (.lst acc) (.ref D) FD ∧ acc.length ≤ i ∧ (∀ j a, Fs2 j a → ¬ FD a) ∧ Step W G H (All Fs) G2 H' (fun a => FD a ∨ All Fs2 a) ∧
      Z = lcE vs tgt tt el (ds.drop i) acc env2) ?_ ?_ ?_ ?_
    · refine ⟨G1, [], fun a => a = D, _, Fs1, (S1.step0 sA).wipe vs, fun _ _ h => h, rA, Nat.le_refl _, fun j a h e => ?_, s1.trans (sA.wide (fun _ h => h.elim) fun a h => ?_), hZ.symm⟩
      · obtain ⟨_, o, h2, _⟩ := S1.ow j a h
        rw [e, hD] at h2; cases h2
      · rcases h with h | h
        · exact .inr h
        · exact .inl h
    · rintro i H' hi' ⟨G2, acc, FD, env2, Fs2, S2, sb, _⟩
      exact hGd H' fun a o h => S2.le a o (sb a o h)
    · rintro i x H' H2 hi' ⟨G2, acc, FD, env2, Fs2, S2, sb, rD, hl, dj, st, eq⟩ hy
      obtain ⟨G3, d, hd, st3, rd⟩ := hY i G2 H' x H2 hi' sb S2.le S2.tb hy
      have hdr : ds.drop i = d :: ds.drop (i + 1) := by
        obtain ⟨h1, h2⟩ := List.getElem?_eq_some_iff.mp hd
        rw [List.drop_eq_getElem_cons h1, h2]
      rw [hdr] at eq
      unfold lcE at eq
      cases e3 : tgt d env2 with
      | none => rw [e3] at eq; rw [eq] at q; exact q.elim
      | some e4 =>
        rw [e3] at eq
        dsimp only at eq
        refine ⟨G3, env2, e4, Fs2, d, S2.step0 st3, rd, e3, fun σ2 Fs4 S4 sub4 p4 => ?_⟩
        have hw : wipe σ2 vs = wipe σ vs := wipe_of (by rw [hlen]; exact p4)
        refine ⟨hw, e4, G3, Fs4, S4, ?_⟩
        have rD3 := rD.step0 st3
        have st4 : Step W G H (All Fs) G3 H2 (fun a => FD a ∨ All Fs4 a) := st.trans (st3.wide (fun _ h => h.elim) fun a h => .inl (h.imp id (sub4 a)))
        have dj4 : ∀ j a, Fs4 j a → ¬ FD a := fun j a h1 => by
          obtain ⟨k, hk⟩ := sub4 a ⟨j, h1⟩
          exact dj k a hk
        have sb3 : Sub G1 G3 := fun a o h => st3.g a o (sb a o h)
        cases e5 : tt e4 with
        | stk => rw [e5] at eq; rw [eq] at q; exact q.elim
        | exc c u => rw [e5] at eq; rw [eq] at q; exact q.elim
        | ok pp =>
          obtain ⟨b, e6⟩ := pp
          rw [e5] at eq
          intro G5 H5 Fs5 s5 S5
          have rD5 := rD3.step s5 fun a h1 ⟨j, h2⟩ => dj4 j a h2 h1
          have dj5 : ∀ a, FD a → ¬ All Fs5 a := apart_after rD3 s5 fun a h1 ⟨j, h2⟩ => dj4 j a h2 h1
          have st5 : Step W G H (All Fs) G5 H5 (fun a => FD a ∨ All Fs5 a) := st4.trans (s5.wide (fun _ h => .inr h) fun a h => h.elim (fun h => .inl (.inl h)) .inr)
          have sb5 : Sub G1 G5 := fun a o h => s5.g a o (sb3 a o h)
          cases b with
          | false =>
            rw [if_neg (by decide)]
            exact ⟨G5, acc, FD, _, Fs5, by rw [← hw]; exact S5.wipe vs, sb5, rD5, by omega, fun j a h1 h2 => dj5 a h2 ⟨j, h1⟩, st5, eq⟩
          | true =>
            rw [if_pos rfl]
            refine ⟨e6, G5, Fs5, S5, ?_⟩
            dsimp only at eq
            cases e7 : el e6 with
            | stk => rw [e7] at eq; rw [eq] at q; exact q.elim
            | exc c u => rw [e7] at eq; rw [eq] at q; exact q.elim
            | ok pp =>
              obtain ⟨y, e8⟩ := pp
              rw [e7] at eq
              intro v G6 H6 F1 Fs6 s6 r6 S6 d6
              have dj6 : ∀ a, FD a → ¬ (F1 a ∨ All Fs6 a) := apart_after rD5 s6 dj5
              have rD6 := rD5.step s6 dj5
              obtain ⟨us, hD6, hvl, s7, r7⟩ := acc_push rD6 r6 s6.le s6.b fun a h1 h2 => dj6 a h2 (.inl h1)
              have dj7 : ∀ j a, Fs6 j a → ¬ (FD a ∨ F1 a) := fun j a h1 h2 => by
                rcases h2 with h2 | h2
                · exact dj6 a h2 (.inr ⟨j, h1⟩)
                · exact d6 j a h2 h1
              refine ⟨us, hD6, by omega, G6, acc ++ [y], _, _, Fs6, by rw [← hw]; exact (S6.step s7 dj7).wipe vs, fun a o h => s6.g a o (sb5 a o h), r7, by rw [List.length_append, List.length_singleton]; omega, dj7, ?_, eq⟩
              refine st5.trans ((s6.wide (F1 := fun a => FD a ∨ All Fs5 a) (F1' := fun a => (FD a ∨ F1 a) ∨ All Fs6 a) (fun _ h => .inr h) fun a h => ?_).trans (s7.wide (fun _ h => .inl h) fun a h => ?_))
              · rcases h with (h | h) | h
                · exact .inl (.inl h)
                · exact .inr (.inl h)
                · exact .inr (.inr h)
              · rcases h with h | h
                · exact .inl (.inl h)
                · exact .inl (.inr h)
    · rintro H' ⟨G2, acc, FD, env2, Fs2, S2, sb, rD, hl, dj, st, eq⟩
      rw [List.drop_length] at eq
      unfold lcE at eq
      rw [eq] at q
      obtain ⟨Fs3, S3, sub3⟩ := Sim.rest S1 sb S2
      exact q _ G2 H' FD Fs3 (st.wide (fun _ h => h) fun a h => .inr (h.imp id (sub3 a))) rD S3 fun i a h1 h2 => by
        obtain ⟨j, hj⟩ := sub3 a ⟨i, h2⟩
        exact dj j a hj h1
theorem SE_lc {elt tg iter : Expr} {ifs : List Expr} {scope : Scope} (own : List (Str × Nat)) {pos : Pos} {it : En → R En (List D × En)} {tgt : D → En → Option En} {tt : En → R En (Bool × En)} {el : En → RE} (hc : X.calm = true) (hN : X.N.Nodup) (hi : SI X W Wx tg it iter)
    (ok : BlkOk X.N X.env.scope scope own) (hg : Bk X scope fun Y => SG Y W (outs (own.map (·.2)) X.N.length) tgt tg) (ht : Bk X scope fun Y => SUs Y W WxF tt ifs) (he : Bk X scope fun Y => SE Y W WxF el elt) (hs : ∀ x, foldedSetIterable iter X.env x = pure x := by intro _; rfl) :
    SE X W Wx (eLc (own.map (·.2)) it tgt tt el) (.ListComp elt [⟨tg, iter, ifs, 0⟩] scope pos) := fun env =>
  ((pe_lc hc hN (hi env) ok (fun s H C cl fp => (hg s H C cl fp).pg) (fun s H C cl fp => PTs_any (ht s H C cl fp)) (fun s H C cl fp => PE_any (he s H C cl fp)) hs : PE X (.ListComp elt [⟨tg, iter, ifs, 0⟩] scope pos) _)).imp' fun pins s σ H Q I q => lcE_core I.len q
theorem SS_setLcE (i : Nat) (fz : Bool) {y : Str} {py : Pos} {spos : Pos} {elt tg iter : Expr} {ifs : List Expr} {scope : Scope} (own : List (Str × Nat)) {pos : Pos} {it : En → R En (List D × En)} {tgt : D → En → Option En} {tt : En → R En (Bool × En)} {el : En → RE} (hc : X.calm = true) (hN : X.N.Nodup) (hi : SI X W Wx tg it iter)
    (ok : BlkOk X.N X.env.scope scope own) (hg : Bk X scope fun Y => SG Y W (outs (own.map (·.2)) X.N.length) tgt tg) (ht : Bk X scope fun Y => SUs Y W WxF tt ifs) (he : Bk X scope fun Y => SE Y W WxF el elt)
    (hk : X.env.scope.kind = .function := by rfl) (hl : (py.line == pos.line) = true := by rfl) (ha : (scope.names.any fun (n, k) => n == y && (k == .local || k == .cell)) = false := by decide +kernel)
    (hp : i ∉ pr := by decide) (hy : X.N[i]? = some y := by rfl) (hyl : X.env.scope.names.lookup y = some .local := by rfl) (hs : ∀ x, foldedSetIterable iter X.env x = pure x := by intro _; rfl) :
    SS X W Wx pr (sSet i (if fz then eFrz (eLc (own.map (·.2)) it tgt tt el) else eLc (own.map (·.2)) it tgt tt el)) (.Assign [.Name y py] (.ListComp elt [⟨tg, iter, ifs, 0⟩] scope pos) spos) := fun env =>
  (ps_setLc hc hN hy hyl (sw_true hk hyl hl ha) (hi env) ok (fun s H C cl fp => (hg s H C cl fp).pg) (fun s H C cl fp => PTs_any (ht s H C cl fp)) (fun s H C cl fp => PE_any (he s H C cl fp)) hs).imp' fun D pins s σ H I q => by
    have q2 := set_core hp q
    have q3 : tE W Wx env (eLc (own.map (·.2)) it tgt tt el env) σ H fun x H1 => D.nx (σ.set i (some x)) H1 := by
      cases fz with
      | true => exact tE_frz q2
      | false => exact q2
    exact lcE_core I.len q3
end
end
end FD


set_option Elab.async false
set_option linter.all false
set_option maxRecDepth 100000
/-! F9: arguments, calls, defs. -/
namespace FD
noncomputable section
open PySem PySem.Spec L2
open PyProof.Rows (envOfC)
section
variable {X : Cx} {W : Wd} {Wx : WX} {pr : List Nat} {G G' H H' : Hp} {env env' : En} {σ σ' : St} {Fs Fs' : Nat → Fp} {F F' : Fp}
structure ArgsOk (W : Wd) (G H : Hp) (ds : List O) (vs : List V) (FA : Nat → Fp) : Prop where
  len : ds.length = vs.length
  rp : ∀ (i : Nat) (d : O) (v : V), ds[i]? = some d → vs[i]? = some v → RpO W.C G H d v (FA i)
  dj : ∀ (i j : Nat) (a : Addr), i ≠ j → FA i a → ¬ FA j a
  bd : ∀ (i : Nat) (a : Addr), FA i a → i < ds.length
/-- arguments: own values and lent slots (ks) -/
def tN (W : Wd) (Wx : WX) (ks : List (Option Nat)) (env : En) (r : R En (List O × En)) : TA := fun σ H Q => ∃ G Fs, Sim W G env σ H Fs ∧ match r with
  | .ok (ds, env') => ∀ vs G' H' FA Fs', Step W G H (All Fs) G' H' (fun a => All FA a ∨ All Fs' a) → ArgsOk W G' H' ds vs FA → Sim W G' env' σ H' Fs' → (∀ i j a, FA i a → ¬ Fs' j a) →
      (∀ (p i : Nat), ks[p]? = some (some i) → ∃ v, vs[p]? = some v ∧ σ[i]? = some (some v)) → Q vs H'
  | .exc c env' => ∀ G' H' Fs', Step W G H (All Fs) G' H' (All Fs') → Sim W G' env' σ H' Fs' → Wx (.ref (W.C.cls c)) none σ H'
  | .stk => False
def SN (X : Cx) (W : Wd) (Wx : WX) (ks : List (Option Nat)) (f : En → R En (List O × En)) (es : List Expr) : Prop := ∀ env, PA X es (tN W Wx ks env (f env))
theorem PA_any {α : Type} {e : List Expr} {t : α → TA} (h : ∀ a, PA X e (t a)) : PA X e (fun σ H Q => ∃ a, t a σ H Q) := ⟨fun pos pins s σ H Q I ⟨a, q⟩ => (h a).run pos pins s σ H Q I q⟩
def nNil : En → R En (List O × En) := fun env => .ok ([], env)
theorem SN_nil : SN X W Wx [] nNil [] := fun env => pa_nil.imp fun σ H Q => by
  rintro ⟨G, Fs, S, q⟩
  exact q [] G H (fun _ => Emp) Fs (S.refl.wide (fun _ h => h) fun a h => .inl (h.elim (fun ⟨_, h⟩ => h.elim) id)) ⟨rfl, fun i d v h => by simp at h, fun _ _ _ _ h => h.elim, fun _ _ h => h.elim⟩ S (fun _ _ _ h => h.elim) fun p i h => by simp at h
def consF (F1 : Fp) (FA : Nat → Fp) : Nat → Fp
  | 0 => F1
  | i + 1 => FA i
theorem ArgsOk.cons {d : O} {v : V} {F1 : Fp} {ds : List O} {vs : List V} {FA : Nat → Fp} (r : RpO W.C G H d v F1) (A : ArgsOk W G H ds vs FA) (dj : ∀ i a, F1 a → ¬ FA i a) : ArgsOk W G H (d :: ds) (v :: vs) (consF F1 FA) where
  len := by rw [List.length_cons, List.length_cons, A.len]
  rp := fun i d' v' h1 h2 => by
    cases i with
    | zero => cases h1; cases h2; exact r
    | succ i => exact A.rp i d' v' h1 h2
  dj := fun i j a hij h1 h2 => by
    cases i with
    | zero =>
      cases j with
      | zero => exact hij rfl
      | succ j => exact dj j a h1 h2
    | succ i =>
      cases j with
      | zero => exact dj i a h2 h1
      | succ j => exact A.dj i j a (fun e => hij (by rw [e])) h1 h2
  bd := fun i a h => by
    cases i with
    | zero => exact Nat.succ_pos _
    | succ i => exact Nat.succ_lt_succ (A.bd i a h)
theorem all_cons {F1 : Fp} {FA : Nat → Fp} {a : Addr} : All (consF F1 FA) a ↔ F1 a ∨ All FA a := by
  constructor
  · rintro ⟨i, h⟩
    cases i with
    | zero => exact .inl h
    | succ i => exact .inr ⟨i, h⟩
  · rintro (h | ⟨i, h⟩)
    · exact ⟨0, h⟩
    · exact ⟨i + 1, h⟩
def nCons (f : En → RE) (g : En → R En (List O × En)) : En → R En (List O × En) := fun env => (f env).bind fun p => (g p.2).bind fun q => .ok (p.1 :: q.1, q.2)
theorem SN_cons {ks : List (Option Nat)} {f : En → RE} {g : En → R En (List O × En)} {e : Expr} {es : List Expr} (ha : SE X W Wx f e) (hr : SN X W Wx ks g es) (hs : starEach (e :: es) X.env = (false, eval e X.env) :: starEach es X.env := by rfl) : SN X W Wx (none :: ks) (nCons f g) (e :: es) :=
  fun env => (pa_cons (ha env) (PA_any hr) hs).imp fun σ H Q => by
    rintro ⟨G, Fs, S, q⟩
    refine ⟨G, Fs, S, ?_⟩
    unfold nCons at q
    cases e1 : f env with
    | stk => rw [e1] at q; exact q
    | exc c u => rw [e1] at q; exact q
    | ok p =>
      obtain ⟨d, e2⟩ := p
      rw [e1, bind_ok] at q
      intro v G1 H1 F1 Fs1 s1 r1 S1 d1
      refine ⟨e2, G1, Fs1, S1, ?_⟩
      dsimp only at q
      have dd : ∀ a, F1 a → ¬ All Fs1 a := fun a h1 ⟨i, h2⟩ => d1 i a h1 h2
      cases e3 : g e2 with
      | stk => rw [e3] at q; exact q
      | exc c u => rw [e3] at q; exact fun G' H' Fs' s S' => q G' H' Fs' (s1.trans (s.wide (fun _ h => .inr h) fun _ h => .inr h)) S'
      | ok p =>
        obtain ⟨ds, e4⟩ := p
        rw [e3, bind_ok] at q
        intro vs G2 H2 FA Fs2 s2 A2 S2 d2 k2
        have dd2 := apart_after r1 s2 dd
        refine q (v :: vs) G2 H2 (consF F1 FA) Fs2 (s1.trans (s2.wide (fun _ h => .inr h) fun a h => ?_)) (A2.cons (r1.step s2 dd) fun i a h1 h2 => dd2 a h1 (.inl ⟨i, h2⟩)) S2 (fun i j a h1 h2 => ?_) fun p i h => ?_
        · rcases h with h | h
          · rcases all_cons.mp h with h | h
            · exact .inl (.inl h)
            · exact .inr (.inl h)
          · exact .inr (.inr h)
        · cases i with
          | zero => exact dd2 a h1 (.inr ⟨j, h2⟩)
          | succ i => exact d2 i j a h1 h2
        · cases p with
          | zero => cases h
          | succ p => exact k2 p i h
/-- the slot is lent -/
def nLend (i : Nat) (g : En → R En (List O × En)) : En → R En (List O × En) := fun env => match gt env i with
  | some d => (g (env.set i none)).bind fun q => .ok (d :: q.1, q.2)
  | none => .stk
theorem Sim.lend (S : Sim W G env σ H Fs) (i : Nat) : Sim W G (env.set i none) σ H (fun j => if j = i then Emp else Fs j) where
  le := S.le
  len := (S.setN i).len
  rp := fun j d e => by
    by_cases h : j = i
    · subst h
      have := gt_setN env j
      unfold gt at this
      rw [e] at this
      cases this
    · simp only [h, if_false]
      exact (S.setN i).rp j d e
  dj := fun j k a hjk h1 h2 => by
    by_cases hj : j = i
    · simp only [hj, if_true] at h1; exact h1.elim
    · by_cases hk : k = i
      · simp only [hk, if_true] at h2; exact h2.elim
      · simp only [hj, hk, if_false] at h1 h2; exact S.dj j k a hjk h1 h2
  ow := fun j a h => by
    by_cases hj : j = i
    · simp only [hj, if_true] at h; exact h.elim
    · simp only [hj, if_false] at h; exact S.ow j a h
  tb := S.tb
theorem all_lend {i : Nat} : ∀ a, All (fun j => if j = i then Emp else Fs j) a → All Fs a := fun a ⟨j, h⟩ => by
  by_cases hj : j = i
  · simp only [hj, if_true] at h; exact h.elim
  · simp only [hj, if_false] at h; exact ⟨j, h⟩
theorem SN_lend (i : Nat) {ks : List (Option Nat)} {g : En → R En (List O × En)} {x : Str} {pos : Pos} {es : List Expr} (hr : SN X W Wx ks g es) (hN : X.N[i]? = some x := by rfl) (hv : Vis X.env.scope x := by first | exact Or.inl rfl | exact Or.inr (Or.inl rfl) | exact Or.inr (Or.inr rfl)) (hd : (x == ("__debug__" : Str)) = false := by decide)
    (hcd : (x == ("__classdict__" : Str)) = false := by decide) (hs : starEach ((.Name x pos : Expr) :: es) X.env = (false, eval (.Name x pos) X.env) :: starEach es X.env := by rfl) : SN X W Wx (some i :: ks) (nLend i g) (.Name x pos :: es) :=
  fun env => (pa_cons (pe_var hN hv hd hcd) (PA_any hr) hs).imp fun σ H Q => by
    rintro ⟨G, Fs, S, q⟩
    unfold nLend at q
    cases e1 : gt env i with
    | none => rw [e1] at q; exact q.elim
    | some d =>
      rw [e1] at q
      obtain ⟨v, h1, r1⟩ := S.rp i d (gt_some e1)
      refine ⟨v, h1, env.set i none, G, _, S.lend i, ?_⟩
      dsimp only at q
      have dd : ∀ a, Fs i a → ¬ All (fun j => if j = i then Emp else Fs j) a := fun a h1 ⟨j, h2⟩ => by
        by_cases hj : j = i
        · simp only [hj, if_true] at h2; exact h2
        · simp only [hj, if_false] at h2; exact S.dj j i a hj h2 h1
      cases e3 : g (env.set i none) with
      | stk => rw [e3] at q; exact q
      | exc c u => rw [e3] at q; exact fun G' H' Fs' s S' => q G' H' Fs' (s.wide all_lend fun _ h => .inr h) S'
      | ok p =>
        obtain ⟨ds, e4⟩ := p
        rw [e3, bind_ok] at q
        intro vs G2 H2 FA Fs2 s2 A2 S2 d2 k2
        have dd2 := apart_after r1 s2 dd
        refine q (v :: vs) G2 H2 (consF (Fs i) FA) Fs2 (s2.wide all_lend fun a h => ?_) (A2.cons (r1.step s2 dd) fun j a h1 h2 => dd2 a h1 (.inl ⟨j, h2⟩)) S2 (fun p j a h1 h2 => ?_) fun p j h => ?_
        · rcases h with h | h
          · rcases all_cons.mp h with h | h
            · exact .inl ⟨i, h⟩
            · exact .inr (.inl h)
          · exact .inr (.inr h)
        · cases p with
          | zero => exact dd2 a h1 (.inr ⟨j, h2⟩)
          | succ p => exact d2 p j a h1 h2
        · cases p with
          | zero =>
            have e : j = i := by
              have : some (some i) = some (some j) := h
              cases this; rfl
            subst e
            exact ⟨v, rfl, h1⟩
          | succ p => exact k2 p j h

/-! ### what a def promises -/
inductive RC where
  | ok (d : O) (fin : List O) | exc (c : Nat) (fin : List O) | stk
structure FinOk (W : Wd) (G H : Hp) (pr : List Nat) (fin : List O) (vs : List V) (FB : Nat → Fp) : Prop where
  rp : ∀ (j i : Nat) (d : O) (v : V), pr[j]? = some i → fin[j]? = some d → vs[i]? = some v → RpO W.C G H d v (FB j)
  dj : ∀ (i j : Nat) (a : Addr), i ≠ j → FB i a → ¬ FB j a
def spC (W : Wd) (n : Nat) (pr : List Nat) (T : List O → RC) : Sp := fun vs H Q E => ∃ G ds FA, Sub G H ∧ TabOk W H ∧ ArgsOk W G H ds vs FA ∧ ds.length = n ∧ match T ds with
  | .ok d fin => ∀ v G' H' F1 FB, Step W G H (All FA) G' H' (fun a => F1 a ∨ All FB a) → RpO W.C G' H' d v F1 → FinOk W G' H' pr fin vs FB → (∀ a, F1 a → ¬ All FB a) → Q v H'
  | .exc c fin => ∀ G' H' FB, Step W G H (All FA) G' H' (All FB) → FinOk W G' H' pr fin vs FB → E (.ref (W.C.cls c)) none H'
  | .stk => False
def putB : List (Nat × Nat) → List O → En → Option En
  | [], _, e => some e
  | (i, j) :: bk, fin, e => match fin[j]? with
    | some d => putB bk fin (e.set i (some d))
    | none => none
def bkOk (ks : List (Option Nat)) (pr : List Nat) (bk : List (Nat × Nat)) : Bool := (bk.all fun p => match pr[p.2]? with
  | some q => match ks[q]? with
    | some (some i) => i == p.1
    | _ => false
  | none => false) && decide (bk.map (·.2)).Nodup
theorem set_self {σ : St} {i : Nat} {v : V} (h : σ[i]? = some (some v)) : σ.set i (some v) = σ := by
  apply List.ext_getElem?
  intro j
  by_cases hj : i = j
  · subst hj
    rw [List.getElem?_set_self (List.getElem?_eq_some_iff.mp h).1, h]
  · rw [List.getElem?_set_ne hj]
theorem put_ok {ks : List (Option Nat)} {fin : List O} {vs : List V} {FB : Nat → Fp} {F1 : Fp} (FO : FinOk W G H pr fin vs FB) (hk : ∀ (p i : Nat), ks[p]? = some (some i) → ∃ v, vs[p]? = some v ∧ σ[i]? = some (some v)) (hF : ∀ a, F1 a → ¬ All FB a) :
    ∀ {bk : List (Nat × Nat)} {e e' : En} {Fs : Nat → Fp}, bkOk ks pr bk = true → putB bk fin e = some e' → Sim W G e σ H Fs → (∀ j ∈ bk.map (·.2), ∀ i a, FB j a → ¬ Fs i a) → (∀ i a, F1 a → ¬ Fs i a) →
      ∃ Fs2, Sim W G e' σ H Fs2 ∧ (∀ a, All Fs2 a → All Fs a ∨ All FB a) ∧ (∀ i a, F1 a → ¬ Fs2 i a)
  | [], e, e', Fs, _, h, S, _, d => by
    cases h
    exact ⟨Fs, S, fun _ h => .inl h, d⟩
  | (i, j) :: bk, e, e', Fs, hb, h, S, dj, d => by
    unfold putB at h
    unfold bkOk at hb
    rw [List.all_cons, List.map_cons, Bool.and_eq_true, Bool.and_eq_true] at hb
    obtain ⟨⟨h1, h2⟩, h3⟩ := hb
    have h3 := of_decide_eq_true h3
    rw [List.nodup_cons] at h3
    cases e1 : fin[j]? with
    | none => rw [e1] at h; cases h
    | some x =>
      rw [e1] at h
      cases e2 : pr[j]? with
      | none => rw [show pr[(i, j).2]? = none from e2] at h1; cases h1
      | some p =>
        rw [show pr[(i, j).2]? = some p from e2] at h1
        dsimp only at h1
        cases e3 : ks[p]? with
        | none => rw [e3] at h1; cases h1
        | some k =>
          rw [e3] at h1
          cases k with
          | none => cases h1
          | some i' =>
            have h1 : i' = i := by simpa using h1
            subst h1
            obtain ⟨v, hv, hσ⟩ := hk p i' e3
            have r := FO.rp j p x v e2 e1 hv
            have S1 := S.set (i := i') r fun k a h1 => dj j (by simp) k a h1
            rw [set_self hσ] at S1
            obtain ⟨Fs2, S2, s2, d2⟩ := put_ok FO hk hF (bk := bk) (by unfold bkOk; rw [Bool.and_eq_true]; exact ⟨h2, decide_eq_true h3.2⟩) h S1 (fun j2 hj2 k a q1 q2 => by
              by_cases hk : k = i'
              · simp only [hk, if_true] at q2
                refine FO.dj j2 j a (fun e => ?_) q1 q2
                subst e
                exact h3.1 hj2
              · simp only [hk, if_false] at q2
                exact dj j2 (by rw [List.map_cons]; exact List.mem_cons_of_mem _ hj2) k a q1 q2) (fun k a q1 q2 => by
              by_cases hk : k = i'
              · simp only [hk, if_true] at q2
                exact hF a q1 ⟨j, q2⟩
              · simp only [hk, if_false] at q2
                exact d k a q1 q2)
            refine ⟨Fs2, S2, fun a h => ?_, d2⟩
            rcases s2 a h with h | h
            · rcases all_set a h with h | h
              · exact .inr ⟨j, h⟩
              · exact .inl h
            · exact .inr h
def eCall (T : List O → RC) (bk : List (Nat × Nat)) (h : En → R En (List O × En)) : En → RE := fun env => (h env).bind fun p => match T p.1 with
  | .ok d fin => match putB bk fin p.2 with
    | some e => .ok (d, e)
    | none => .stk
  | .exc c fin => match putB bk fin p.2 with
    | some e => .exc c e
    | none => .stk
  | .stk => .stk
/-- the reading of a call behind its arguments -/
theorem call_core {n : Nat} {ks : List (Option Nat)} {T : List O → RC} {bk : List (Nat × Nat)} {h : En → R En (List O × En)} {t : TA} {Q : VK} (hT : ∀ ds, (T ds) ≠ .stk → ds.length = n) (hb : bkOk ks pr bk = true) (ht : ∀ Q', tN W Wx ks env (h env) σ H Q' → t σ H Q')
    (q : tE W Wx env (eCall T bk h env) σ H Q) : t σ H fun vs H1 => spC W n pr T vs H1 Q (WE Wx σ) := by
  obtain ⟨G, Fs, S, q⟩ := q
  refine ht _ ⟨G, Fs, S, ?_⟩
  unfold eCall at q
  cases e1 : h env with
  | stk => rw [e1] at q; exact q
  | exc c u => rw [e1] at q; exact q
  | ok p =>
    obtain ⟨ds, e2⟩ := p
    rw [e1, bind_ok] at q
    intro vs G1 H1 FA Fs1 s1 A1 S1 d1 k1
    dsimp only at q
    refine ⟨G1, ds, FA, s1.le, s1.b, A1, ?_, ?_⟩
    · refine hT ds fun e => ?_
      rw [e] at q; exact q
    have base : ∀ {G' H' : Hp} {F2 : Fp}, Step W G1 H1 (All FA) G' H' F2 → Sim W G' e2 σ H' Fs1 ∧ (∀ a, All Fs1 a → ¬ F2 a) := fun {G' H' F2} s => by
      refine ⟨S1.step s fun i a h1 ⟨j, h2⟩ => d1 j i a h2 h1, fun a ⟨i, h1⟩ h2 => ?_⟩
      rcases s.f a h2 with ⟨j, z⟩ | z
      · exact d1 j i a z h1
      · obtain ⟨_, o, h3, _⟩ := S1.ow i a h1
        rw [h3] at z; cases z
    cases e3 : T ds with
    | stk => rw [e3] at q; exact q
    | ok d fin =>
      rw [e3] at q
      intro v G' H' F1 FB s2 r2 FO dd
      obtain ⟨S2, ap⟩ := base s2
      dsimp only at q
      cases e4 : putB bk fin e2 with
      | none => rw [e4] at q; exact q.elim
      | some e5 =>
        rw [e4] at q
        obtain ⟨Fs2, S3, s3, d3⟩ := put_ok FO k1 dd hb e4 S2 (fun j _ i a h1 h2 => ap a ⟨i, h2⟩ (.inr ⟨j, h1⟩)) fun i a h1 h2 => ap a ⟨i, h2⟩ (.inl h1)
        refine q v G' H' F1 Fs2 (s1.trans (s2.wide (fun _ h => .inl h) fun a h => ?_)) r2 S3 d3
        rcases h with h | h
        · exact .inr (.inl h)
        · rcases s3 a h with h | h
          · exact .inl (.inr h)
          · exact .inr (.inr h)
    | exc c fin =>
      rw [e3] at q
      intro G' H' FB s2 FO
      obtain ⟨S2, ap⟩ := base s2
      dsimp only at q
      cases e4 : putB bk fin e2 with
      | none => rw [e4] at q; exact q.elim
      | some e5 =>
        rw [e4] at q
        obtain ⟨Fs2, S3, s3, _⟩ := put_ok (F1 := Emp) FO k1 (fun _ h => h.elim) hb e4 S2 (fun j _ i a h1 h2 => ap a ⟨i, h2⟩ ⟨j, h1⟩) fun i a h1 h2 => h1
        refine q G' H' Fs2 (s1.trans (s2.wide (fun _ h => .inl h) fun a h => ?_)) S3
        rcases s3 a h with h | h
        · exact .inl (.inr h)
        · exact .inr h
theorem SE_call {k n : Nat} {f : Addr} {fd : FuncData} {ps : List Str} {T : List O → RC} {ks : List (Option Nat)} (bk : List (Nat × Nat)) {h : En → R En (List O × En)} {x : Str} {p pos : Pos} {e : Expr} {es : List Expr}
    (F : FnOk X.prog X.w X.K X.mg X.base (L2.CX X.prog X.w) k f fd ps (spC W n pr T)) (hT : ∀ ds, (T ds) ≠ .stk → ds.length = n) (hr : Room k X.A) (hg : Gl X x) (hm : X.mg x = some (.ref f)) (hk : PySem.W.keepIn X.K (.ref f) = true) (hb : Binds X.K fd ps []) (tk : Takes X Wx)
    (ha : SN X W Wx ks h (e :: es)) (hbk : bkOk ks pr bk = true := by decide) (hdb : (x == ("__debug__" : Str)) = false := by decide) (he : starEach (e :: es) X.env = (false, eval e X.env) :: starEach es X.env := by rfl) (hpl : (backTo pos (starEach es X.env)).any (·.1) = false := by rfl) :
    SE X W Wx (eCall T bk h) (.Call (.Name x p) (e :: es) [] pos) := fun env => (pe_callS F hr hg hm hk hb (fun σ => passAt tk σ) (ha env) hdb he hpl).imp fun σ H Q q => call_core hT hbk (fun _ h => h) q

/-! ### a def -/
def finL : List Nat → En → Option (List O)
  | [], _ => some []
  | i :: is, e => (gt e i).bind fun d => (finL is e).map (d :: ·)
theorem finL_get {e : En} : ∀ {pr : List Nat} {fin : List O} {j i : Nat} {d : O}, finL pr e = some fin → pr[j]? = some i → fin[j]? = some d → gt e i = some d
  | [], _, _, _, _, _, h, _ => by simp at h
  | k :: is, fin, j, i, d, h, h1, h2 => by
    unfold finL at h
    cases e1 : gt e k with
    | none => rw [e1] at h; cases h
    | some x =>
      rw [e1, Option.bind_some] at h
      cases e2 : finL is e with
      | none => rw [e2] at h; cases h
      | some fin' =>
        rw [e2] at h
        cases h
        cases j with
        | zero => cases h1; cases h2; exact e1
        | succ j => exact finL_get e2 h1 h2
def tbl (pr : List Nat) (r : RS) : RC := match r with
  | .rt d e => match finL pr e with
    | some fin => .ok d fin
    | none => .stk
  | .nx e => match finL pr e with
    | some fin => .ok (.sh .non) fin
    | none => .stk
  | .exc c e => match finL pr e with
    | some fin => .exc c fin
    | none => .stk
  | _ => .stk
def fnE (m : Nat) (ds : List O) : En := ds.map some ++ List.replicate (m - ds.length) none
/-- the def's table: n parameters, m slots -/
def fnT (n m : Nat) (pr : List Nat) (g : En → RS) : List O → RC := fun ds => if ds.length = n then tbl pr (g (fnE m ds)) else .stk
theorem fnT_len {n m : Nat} {pr : List Nat} {g : En → RS} : ∀ ds, fnT n m pr g ds ≠ .stk → ds.length = n := fun ds h => by
  unfold fnT at h
  split at h
  · assumption
  · exact absurd rfl h
theorem ArgsOk.sim {ds : List O} {vs : List V} {FA : Nat → Fp} (A : ArgsOk W G H ds vs FA) (le : Sub G H) (b : TabOk W H) {N : List Str} : Sim W G (fnE N.length ds) (L2.start N vs) H FA where
  le := le
  len := by unfold fnE L2.start; rw [List.length_append, List.length_append, List.length_map, List.length_map, List.length_replicate, List.length_replicate, A.len]
  rp := fun i d e => by
    unfold fnE at e
    by_cases hi : i < ds.length
    · rw [List.getElem?_append_left (by rw [List.length_map]; exact hi), List.getElem?_map] at e
      cases e1 : ds[i]? with
      | none => rw [e1] at e; cases e
      | some x =>
        rw [e1] at e
        cases e
        have hv : i < vs.length := by rw [← A.len]; exact hi
        refine ⟨vs[i], ?_, A.rp i _ _ e1 (List.getElem?_eq_getElem hv)⟩
        unfold L2.start
        rw [List.getElem?_append_left (by rw [List.length_map]; exact hv), List.getElem?_map, List.getElem?_eq_getElem hv]; rfl
    · rw [List.getElem?_append_right (by rw [List.length_map]; omega), List.getElem?_replicate] at e
      split at e <;> cases e
  dj := A.dj
  ow := fun i a h => by
    have hi := A.bd i a h
    exact (A.rp i _ _ (List.getElem?_eq_getElem hi) (List.getElem?_eq_getElem (by rw [← A.len]; exact hi))).own a h
  tb := b
theorem FinOk.of {N : List Str} {fin : List O} {vs : List V} {e : En} (S : Sim W G e σ H Fs) (hf : finL pr e = some fin) (p : Pr pr (L2.start N vs) σ) (hp : ∀ i ∈ pr, i < vs.length) (hn : pr.Nodup) : ∃ FB, FinOk W G H pr fin vs FB ∧ (∀ a, All FB a → All Fs a) := by
  refine ⟨fun j => match pr[j]? with
    | some i => Fs i
    | none => Emp, ⟨fun j i d v h1 h2 h3 => ?_, fun i j a hij h1 h2 => ?_⟩, fun a ⟨j, h⟩ => ?_⟩
  · show RpO W.C G H d v (match pr[j]? with | some i => Fs i | none => Emp)
    rw [h1]
    have g := finL_get hf h1 h2
    obtain ⟨w, hw, r⟩ := S.rp i d (gt_some g)
    have hi : i ∈ pr := List.mem_of_getElem? h1
    have := p.2 i hi
    rw [hw] at this
    unfold L2.start at this
    rw [List.getElem?_append_left (by rw [List.length_map]; exact hp i hi), List.getElem?_map, h3] at this
    have e : w = v := by simpa using this
    rw [← e]
    exact r
  · replace h1 : (match pr[i]? with | some i => Fs i | none => Emp) a := h1
    replace h2 : (match pr[j]? with | some i => Fs i | none => Emp) a := h2
    cases e1 : pr[i]? with
    | none => rw [e1] at h1; exact h1
    | some k =>
      rw [e1] at h1
      cases e2 : pr[j]? with
      | none => rw [e2] at h2; exact h2
      | some l =>
        rw [e2] at h2
        refine S.dj k l a (fun e => hij ?_) h1 h2
        subst e
        have hi := (List.getElem?_eq_some_iff.mp e1).1
        have hj := (List.getElem?_eq_some_iff.mp e2).1
        exact (List.getElem?_inj hi hn).mp (e1.trans e2.symm)
  · replace h : (match pr[j]? with | some i => Fs i | none => Emp) a := h
    cases e1 : pr[j]? with
    | none => rw [e1] at h; exact h.elim
    | some i => rw [e1] at h; exact ⟨i, h⟩
end
section
variable {P : Program} {w : World} {K : PySem.W.Frag} {mg : Str → Option Value} {base : Heap} {W : Wd}
theorem fn_ok {x qual : Str} {st : Stmt} {f : Addr} {fd : FuncData} {N ps : List Str} {k n m : Nat} {pr : List Nat} {g : En → RS} (F : Fun K x qual st f fd) (S : FnScope N ps (defScope st)) (hn : ps.length = n) (hm : N.length = m) (hp : ∀ i ∈ pr, i < n) (hnd : pr.Nodup)
    (body : ∀ (cdv : Value) (A : Around) (outer : List Env) (s : Shared) (H : Hp) (E : XK), Room k (A.deeper (envOfC qual (defScope st) s.heap.objs.size f cdv)) →
      SSs (cxOf (L2.CX P w) P w K mg base N qual (defScope st) f cdv A outer s H E) W (fun cls d _ H' => E cls d H') pr g (defBody st)) : FnOk P w K mg base (L2.CX P w) (k + 1) f fd ps (spC W n pr (fnT n m pr g)) := by
  refine F.okX S (fun vs H Q E h => ?_) fun cdv A outer s H vs Q E hr h => ?_
  · obtain ⟨G, ds, FA, _, _, A, e, _⟩ := h
    rw [← A.len, e, hn]
  · obtain ⟨G, ds, FA, le, b, AA, e, q⟩ := h
    refine ⟨_, body cdv A outer s H E hr (fnE m ds), ?_⟩
    have hv : ∀ i ∈ pr, i < vs.length := fun i hi => by rw [← AA.len, e]; exact hp i hi
    refine ⟨G, FA, by rw [← hm]; exact AA.sim le b, ?_⟩
    unfold fnT at q
    rw [if_pos e] at q
    unfold tbl at q
    cases e1 : g (fnE m ds) with
    | stk => rw [e1] at q; exact q
    | bk u => rw [e1] at q; exact q.elim
    | ct u => rw [e1] at q; exact q.elim
    | nx u =>
      rw [e1] at q
      dsimp only at q
      cases e2 : finL pr u with
      | none => rw [e2] at q; exact q.elim
      | some fin =>
        rw [e2] at q
        intro σ' G' H' Fs' s' S' p'
        obtain ⟨FB, FO, sub⟩ := FinOk.of S' e2 p' hv hnd
        exact q .non G' H' Emp FB (s'.wide (fun _ h => h) fun a h => .inr (h.elim (fun h => h.elim) (sub a))) (.sh' .non) FO fun _ h => h.elim
    | rt d u =>
      rw [e1] at q
      dsimp only at q
      cases e2 : finL pr u with
      | none => rw [e2] at q; exact q.elim
      | some fin =>
        rw [e2] at q
        intro v σ' G' H' F1 Fs' s' r' S' d' p'
        obtain ⟨FB, FO, sub⟩ := FinOk.of S' e2 p' hv hnd
        refine q v G' H' F1 FB (s'.wide (fun _ h => h) fun a h => .inr (h.imp id (sub a))) r' FO fun a h1 h2 => ?_
        obtain ⟨i, hi⟩ := sub a h2
        exact d' i a h1 hi
    | exc c u =>
      rw [e1] at q
      dsimp only at q
      cases e2 : finL pr u with
      | none => rw [e2] at q; exact q.elim
      | some fin =>
        rw [e2] at q
        intro σ' G' H' Fs' s' S' p'
        obtain ⟨FB, FO, sub⟩ := FinOk.of S' e2 p' hv hnd
        exact q G' H' FB (s'.wide (fun _ h => h) fun a h => .inr (sub a h)) FO
end
end
end FD


set_option Elab.async false
set_option linter.all false
set_option maxRecDepth 100000
/-! F10: pure calls, methods, instances. -/
namespace FD
noncomputable section
open PySem PySem.Spec L2
open PyProof.Rows (envOfC)
theorem keys_lookup {α β : Type} {k : Str} : ∀ {xs : List (Str × α)} {ys : List (Str × β)}, xs.map (·.1) = ys.map (·.1) →
    (xs.lookup k = none → ys.lookup k = none) ∧ (∀ d, xs.lookup k = some d → ∃ (i : Nat) (v : β), (xs.map (·.2))[i]? = some d ∧ (ys.map (·.2))[i]? = some v ∧ ys.lookup k = some v)
  | [], [], _ => ⟨fun _ => rfl, fun d h => by cases h⟩
  | [], _ :: _, h => by cases h
  | _ :: _, [], h => by cases h
  | (a, x) :: xs, (b, y) :: ys, h => by
    rw [List.map_cons, List.map_cons] at h
    injection h with h1 h2
    have h1 : a = b := h1
    subst h1
    obtain ⟨i1, i2⟩ := keys_lookup (k := k) h2
    rw [List.lookup_cons, List.lookup_cons]
    cases e : k == a with
    | true => exact And.intro (fun (h : some x = none) => by cases h) (fun d (h : some x = some d) => by cases h; exact ⟨0, y, rfl, rfl, rfl⟩)
    | false => exact ⟨i1, fun d h => let ⟨i, v, q1, q2, q3⟩ := i2 d h; ⟨i + 1, v, q1, q2, q3⟩⟩
section
variable {X : Cx} {W : Wd} {Wx : WX} {pr : List Nat} {G G' H H' : Hp} {env env' : En} {σ σ' : St} {Fs Fs' : Nat → Fp} {F F' : Fp}
/-! ### pure calls -/
def callP (T : List O → RC) (ds : List O) : RP := match allSh ds with
  | some _ => match T ds with
    | .ok d _ => .ok d
    | .exc c _ => .exc c ()
    | .stk => .stk
  | none => .stk
def bCall (T : List O → RC) (f : En → R Unit (List O)) : En → RP := fun env => (f env).bind (callP T)
theorem args_sh {ds : List D} {vs : List V} (r : RpL W G H (ds.map .sh) vs) : ArgsOk W G H (ds.map .sh) vs (fun _ => Emp) where
  len := Paired.length r
  rp := fun i d v h1 h2 => by
    obtain ⟨F1, r1⟩ := paired_get' r i d v h1 h2
    obtain ⟨x, _, rfl⟩ := get_sh h1
    exact .sh' (rp_sh r1)
  dj := fun _ _ _ _ h => h.elim
  bd := fun _ _ h => h.elim
theorem Step.all0 {F2 : Fp} (s : Step W G H (All fun _ => Emp) G' H' F2) : Step W G H Emp G' H' F2 := s.wide (fun _ ⟨_, h⟩ => h) fun _ h => .inr h
/-- behind shared arguments -/
theorem callP_core {n : Nat} {T : List O → RC} {Q : VK} {ds : List O} {vs : List V} (hT : ∀ ds, (T ds) ≠ .stk → ds.length = n) (le : Sub G H) (b : TabOk W H) (r : RpL W G H ds vs)
    (q : match callP T ds with
      | .ok d => ∀ v G' H' F1, Step W G H Emp G' H' F1 → RpO W.C G' H' d v F1 → Q v H'
      | .exc c _ => ∀ G' H', Step W G H Emp G' H' Emp → Wx (.ref (W.C.cls c)) none σ H'
      | .stk => False) : spC W n pr T vs H Q (WE Wx σ) := by
  unfold callP at q
  cases e0 : allSh ds with
  | none => rw [e0] at q; exact q.elim
  | some xs =>
    rw [e0] at q
    dsimp only at q
    have ed := allSh_some e0
    subst ed
    refine ⟨G, xs.map .sh, _, le, b, args_sh r, hT _ fun e => by rw [e] at q; exact q, ?_⟩
    cases e1 : T (xs.map .sh) with
    | stk => rw [e1] at q; exact q
    | ok d fin =>
      rw [e1] at q
      intro v G' H' F1 FB s r1 _ _
      exact q v G' H' F1 (s.all0.wide (fun _ h => h) fun a h => .inr (.inl h)) r1
    | exc c fin =>
      rw [e1] at q
      intro G' H' FB s _
      exact q G' H' (s.all0.wide (fun _ h => h) fun a h => .inl h)
theorem SV_call {k n : Nat} {f : Addr} {fd : FuncData} {ps : List Str} {T : List O → RC} {h : En → R Unit (List O)} {x : Str} {p pos : Pos} {e : Expr} {es : List Expr}
    (F : FnOk X.prog X.w X.K X.mg X.base (L2.CX X.prog X.w) k f fd ps (spC W n pr T)) (hT : ∀ ds, (T ds) ≠ .stk → ds.length = n) (hr : Room k X.A) (hg : Gl X x) (hm : X.mg x = some (.ref f)) (hk : PySem.W.keepIn X.K (.ref f) = true) (hb : Binds X.K fd ps []) (tk : Takes X Wx)
    (ha : SA X W Wx h (e :: es)) (hdb : (x == ("__debug__" : Str)) = false := by decide) (he : starEach (e :: es) X.env = (false, eval e X.env) :: starEach es X.env := by rfl) (hpl : (backTo pos (starEach es X.env)).any (·.1) = false := by rfl) :
    SV X W Wx (bCall T h) (.Call (.Name x p) (e :: es) [] pos) := fun env => (pe_callS F hr hg hm hk hb (fun σ => passAt tk σ) (ha env) hdb he hpl).imp fun σ H Q => by
  rintro ⟨G, Fs, S, q⟩
  refine ⟨G, Fs, S, ?_⟩
  unfold bCall at q
  cases e1 : h env with
  | stk => rw [e1] at q; exact q
  | exc c u => rw [e1] at q; exact q
  | ok ds =>
    rw [e1, bind_ok] at q
    intro vs G1 H1 s1 r1
    refine callP_core hT s1.le s1.b r1 ?_
    cases e2 : callP T ds with
    | stk => rw [e2] at q; exact q
    | ok d => rw [e2] at q; exact fun v G' H' F1 s r => q v G' H' F1 (s1.trans s) r
    | exc c u => rw [e2] at q; exact fun G' H' s => q G' H' (s1.trans s)

/-! ### methods -/
def tMethS (C : Addr) (m : Str) (sp : Sp) (E : St → XK) (ta : TE) (t : TA) : TE := fun σ H Q => ta σ H fun x H1 => ∃ a dx fs, x = .ref a ∧ H1 a = some (.ins C dx fs) ∧ fs.lookup m = none ∧
  t σ H1 fun vs H2 => sp (x :: vs) H2 Q (E σ)
theorem pe_methS {CX : CXT} {k : Nat} {f C : Addr} {fd : FuncData} {ps : List Str} {sp : Sp} {E : St → XK} {m : Str} {pos apos : Pos} {e o : Expr} {es : List Expr} {ta : TE} {t : TA} {pl : Sem Bool} (he : PE X o ta) (c : Cls X.K C) (hm : Meth X.K C m f) (F : FnOk X.prog X.w X.K X.mg X.base CX k f fd ps sp) (hr : Room k X.A) (hb : Binds X.K fd ps []) (hx : ∀ σ, PassesAt CX X σ (E σ)) (ha : PA X (e :: es) t)
    (hst : starEach (e :: es) X.env = (false, eval e X.env) :: starEach es X.env := by rfl) (hpl : (backTo pos (starEach es X.env)).any (·.1) = false := by rfl)
    (ht : eval (.Call (.Attribute o m apos) (e :: es) [] pos) X.env = (do
      let ov ← eval o X.env
      standAt apos.atName
      let (f, first) ← holding [ov] (getMethod ov m pl)
      callWith pos f first (backTo pos (starEach (e :: es) X.env)) (backToKw pos (keywordEach [] X.env))) := by rfl) :
    PE X (.Call (.Attribute o m apos) (e :: es) [] pos) (tMethS C m sp E ta t) := by
  refine ⟨fun pins s σ H Q I h => ?_⟩
  refine PySem.W.methodCall_KW (pl := pl) (thn (he.run pins s σ H _ I h) fun u s1 ⟨x, H1, I1, rx, a, dx, fs, ex, ea, l, q⟩ => ?_) ht
  subst ex
  obtain rfl : u = Value.ref a := rx
  refine getmeth_ok I1 ea c hm l ?_
  refine PySem.W.callWith_K (first := [.ref a]) (h₀ := X.base) I.ok.mod.kin hm.kp (thn (ha.run pos pins s1 σ H1 _ I1 q) fun us s2 ⟨vs, H2, I2, r, q2⟩ => ⟨I2.kIn, ?_⟩) hst hpl
  exact run_fnS (us := .ref a :: us) (vs := .ref a :: vs) F hr hb (hx σ) I2 (.cons rfl r) q2
theorem pe_methS0 {CX : CXT} {k : Nat} {f C : Addr} {fd : FuncData} {ps : List Str} {sp : Sp} {E : St → XK} {m : Str} {pos apos : Pos} {o : Expr} {ta : TE} {pl : Sem Bool} (he : PE X o ta) (c : Cls X.K C) (hm : Meth X.K C m f) (F : FnOk X.prog X.w X.K X.mg X.base CX k f fd ps sp) (hr : Room k X.A) (hb : Binds X.K fd ps []) (hx : ∀ σ, PassesAt CX X σ (E σ))
    (ht : eval (.Call (.Attribute o m apos) [] [] pos) X.env = (do
      let ov ← eval o X.env
      standAt apos.atName
      let (f, first) ← holding [ov] (getMethod ov m pl)
      callWith pos f first (backTo pos (starEach [] X.env)) (backToKw pos (keywordEach [] X.env))) := by rfl) :
    PE X (.Call (.Attribute o m apos) [] [] pos) (tMethS C m sp E ta tNil) := by
  refine ⟨fun pins s σ H Q I h => ?_⟩
  refine PySem.W.methodCall_KW (pl := pl) (thn (he.run pins s σ H _ I h) fun u s1 ⟨x, H1, I1, rx, a, dx, fs, ex, ea, l, q⟩ => ?_) ht
  subst ex
  obtain rfl : u = Value.ref a := rx
  refine getmeth_ok I1 ea c hm l ?_
  refine PySem.W.callWith_K0 (first := [.ref a]) I1.kIn hm.kp ?_
  exact run_fnS (us := [.ref a]) (vs := [.ref a]) F hr hb (hx σ) I1 (.cons rfl .nil) q
/-- an instance of c without an attribute m -/
def insOf (c : Nat) (m : Str) : O → Bool
  | .sh (.ins c' fs) => decide (c' = c) && (fs.lookup m).isNone
  | .ins c' fs => decide (c' = c) && (fs.lookup m).isNone
  | _ => false
theorem insOf_ok {c : Nat} {m : Str} {x : O} {v : V} (le : Sub G H) (r : RpO W.C G H x v F) (h : insOf c m x = true) : ∃ a dx fs, v = .ref a ∧ H a = some (.ins (W.C.cls c) dx fs) ∧ fs.lookup m = none := by
  unfold insOf at h
  split at h
  · rw [Bool.and_eq_true] at h
    obtain ⟨h1, h2⟩ := h
    have h1 := of_decide_eq_true h1
    subst h1
    cases rp_sh r with
    | ins q e _ => exact ⟨_, _, _, rfl, le _ _ q, (keys_lookup e).1 (by simpa using h2)⟩
  · rw [Bool.and_eq_true] at h
    obtain ⟨h1, h2⟩ := h
    have h1 := of_decide_eq_true h1
    subst h1
    cases r with
    | ins Fs g q e _ _ _ _ => exact ⟨_, _, _, rfl, q, (keys_lookup e).1 (by simpa using h2)⟩
  · cases h
def bMeth (c : Nat) (m : Str) (T : List O → RC) (f : En → RP) (g : En → R Unit (List O)) : En → RP := fun env => (f env).bind fun x => if insOf c m x then (g env).bind fun ds => callP T (x :: ds) else .stk
theorem methP_core {n c : Nat} {m : Str} {T : List O → RC} {ta : TE} {t : TA} {f : En → RP} {g : En → R Unit (List O)} {Q : VK} (hT : ∀ ds, (T ds) ≠ .stk → ds.length = n) (ha : ∀ Q', tP W Wx env (f env) σ H Q' → ta σ H Q') (hb : ∀ H' Q', tA W Wx env (g env) σ H' Q' → t σ H' Q')
    (q : tV W Wx env (bMeth c m T f g env) σ H Q) : tMethS (W.C.cls c) m (spC W n pr T) (WE Wx) ta t σ H Q := by
  obtain ⟨G, Fs, S, q⟩ := q
  refine ha _ ⟨G, Fs, S, ?_⟩
  unfold bMeth at q
  cases e1 : f env with
  | stk => rw [e1] at q; exact q
  | exc c u => rw [e1] at q; exact q
  | ok x =>
    rw [e1, bind_ok] at q
    intro v G1 H1 F1 s1 r1
    cases hi : insOf c m x with
    | false => rw [hi, if_neg (by decide)] at q; exact q.elim
    | true =>
      rw [hi, if_pos rfl] at q
      obtain ⟨a, dx, fs, ev, ea, el⟩ := insOf_ok s1.le r1 hi
      refine ⟨a, dx, fs, ev, ea, el, hb _ _ ⟨G1, Fs, S.step0 s1, ?_⟩⟩
      cases e2 : g env with
      | stk => rw [e2] at q; exact q
      | exc c u => rw [e2] at q; exact fun G' H' s => q G' H' (s1.trans s)
      | ok ds =>
        rw [e2, bind_ok] at q
        intro vs G2 H2 s2 r2
        refine callP_core hT s2.le s2.b (.cons ⟨F1, r1.step0 s2⟩ r2) ?_
        cases e3 : callP T (x :: ds) with
        | stk => rw [e3] at q; exact q
        | ok d => rw [e3] at q; exact fun v G' H' F1 s r => q v G' H' F1 ((s1.trans s2).trans s) r
        | exc c u => rw [e3] at q; exact fun G' H' s => q G' H' ((s1.trans s2).trans s)
theorem SV_meth {k n c : Nat} {f : Addr} {fd : FuncData} {ps : List Str} {T : List O → RC} {fo : En → RP} {h : En → R Unit (List O)} {m : Str} {apos pos : Pos} {o e : Expr} {es : List Expr} {pl : Sem Bool}
    (F : FnOk X.prog X.w X.K X.mg X.base (L2.CX X.prog X.w) k f fd ps (spC W n pr T)) (hT : ∀ ds, (T ds) ≠ .stk → ds.length = n) (hr : Room k X.A) (hc : Cls X.K (W.C.cls c)) (hm : Meth X.K (W.C.cls c) m f) (hb : Binds X.K fd ps []) (tk : Takes X Wx)
    (ho : SP X W Wx fo o) (ha : SA X W Wx h (e :: es)) (hst : starEach (e :: es) X.env = (false, eval e X.env) :: starEach es X.env := by rfl) (hpl : (backTo pos (starEach es X.env)).any (·.1) = false := by rfl)
    (ht : eval (.Call (.Attribute o m apos) (e :: es) [] pos) X.env = (do
      let ov ← eval o X.env
      standAt apos.atName
      let (f, first) ← holding [ov] (getMethod ov m pl)
      callWith pos f first (backTo pos (starEach (e :: es) X.env)) (backToKw pos (keywordEach [] X.env))) := by rfl) : SV X W Wx (bMeth c m T fo h) (.Call (.Attribute o m apos) (e :: es) [] pos) :=
  fun env => (pe_methS (E := WE Wx) (ho env) hc hm F hr hb (fun σ => passAt tk σ) (ha env) hst hpl ht).imp fun σ H Q q => methP_core hT (fun _ h => h) (fun _ _ h => h) q
theorem SV_meth0 {k n c : Nat} {f : Addr} {fd : FuncData} {ps : List Str} {T : List O → RC} {fo : En → RP} {m : Str} {apos pos : Pos} {o : Expr} {pl : Sem Bool}
    (F : FnOk X.prog X.w X.K X.mg X.base (L2.CX X.prog X.w) k f fd ps (spC W n pr T)) (hT : ∀ ds, (T ds) ≠ .stk → ds.length = n) (hr : Room k X.A) (hc : Cls X.K (W.C.cls c)) (hm : Meth X.K (W.C.cls c) m f) (hb : Binds X.K fd ps []) (tk : Takes X Wx)
    (ho : SP X W Wx fo o)
    (ht : eval (.Call (.Attribute o m apos) [] [] pos) X.env = (do
      let ov ← eval o X.env
      standAt apos.atName
      let (f, first) ← holding [ov] (getMethod ov m pl)
      callWith pos f first (backTo pos (starEach [] X.env)) (backToKw pos (keywordEach [] X.env))) := by rfl) : SV X W Wx (bMeth c m T fo aNil) (.Call (.Attribute o m apos) [] [] pos) :=
  fun env => (pe_methS0 (E := WE Wx) (ho env) hc hm F hr hb (fun σ => passAt tk σ) ht).imp fun σ H Q q => methP_core hT (fun _ h => h) (fun H' Q' => by
    rintro ⟨G, Fs, S, q⟩
    exact q [] G H' S.refl .nil) q
/-! ### attributes -/
def fldO (f : Str) : O → Option O
  | .sh (.ins c fs) => (fs.lookup f).map .sh
  | .ins c fs => fs.lookup f
  | _ => none
def bFld (f : Str) (g : En → RP) : En → RP := fun env => (g env).bind fun x => ofO (fldO f x)
def insC : O → Option Nat
  | .sh (.ins c fs) => some c
  | .ins c fs => some c
  | _ => none
/-- the classes whose attributes are plain -/
structure FldOk (K : PySem.W.Frag) (W : Wd) (f : Str) (cs : List Nat) : Prop where
  at_ : ∀ c ∈ cs, Cls K (W.C.cls c) ∧ NoAttr K (W.C.cls c) f
def bFldC (cs : List Nat) (f : Str) (g : En → RP) : En → RP := fun env => (g env).bind fun x => match insC x with
  | some c => if cs.contains c then ofO (fldO f x) else .stk
  | none => .stk
theorem SP_fld (cs : List Nat) {f : Str} {g : En → RP} {e : Expr} {pos : Pos} (hf : FldOk X.K W f cs) (h : SP X W Wx g e) (hb : attributeBase e f X.env (eval e X.env) = eval e X.env := by rfl) : SP X W Wx (bFldC cs f g) (.Attribute e f pos) := fun env => (pe_fld (h env) hb).imp fun σ H Q => by
  rintro ⟨G, Fs, S, q⟩
  refine ⟨G, Fs, S, ?_⟩
  unfold bFldC at q
  cases e1 : g env with
  | stk => rw [e1] at q; exact q
  | exc c u => rw [e1] at q; exact q
  | ok x =>
    rw [e1, bind_ok] at q
    intro v G1 H1 F1 s1 r1
    cases e2 : insC x with
    | none => rw [e2] at q; exact q.elim
    | some c =>
      rw [e2] at q
      dsimp only at q
      by_cases hc' : cs.contains c = true
      · rw [if_pos hc'] at q
        have hc : c ∈ cs := by simpa using hc'
        obtain ⟨k1, k2⟩ := hf.at_ c hc
        cases e3 : fldO f x with
        | none => rw [e3] at q; exact q.elim
        | some y =>
          rw [e3] at q
          unfold insC at e2
          split at e2
          · rename_i fs0
            cases e2
            cases rp_sh r1 with
            | @ins _ xs p dx vs hh hk hv =>
              replace e3 : (fs0.lookup f).map O.sh = some y := e3
              cases e4 : fs0.lookup f with
              | none => rw [e4] at e3; cases e3
              | some d =>
                rw [e4] at e3
                cases e3
                obtain ⟨i, u, h1, h2, h3⟩ := (keys_lookup (k := f) hk).2 d e4
                exact ⟨p, _, dx, vs, u, rfl, s1.le _ _ hh, k1, k2, h3, q u G1 H1 Emp s1 (.sh' (hv i d u h1 h2))⟩
          · cases e2
            cases r1 with
            | @ins _ xs p dx vs _ Fs' g' hh hk hv _ _ _ =>
              unfold fldO at e3
              obtain ⟨i, u, h1, h2, h3⟩ := (keys_lookup (k := f) hk).2 y e3
              exact ⟨p, _, dx, vs, u, rfl, hh, k1, k2, h3, q u G1 H1 _ s1 (hv i y u h1 h2)⟩
          · cases e2
      · rw [if_neg hc'] at q
        exact q.elim
end
end
end FD


set_option Elab.async false
set_option linter.all false
set_option maxRecDepth 100000
/-! F11: slices, displays, conversions, built-ins by values. -/
namespace FD
noncomputable section
open PySem PySem.Spec L2
section
variable {X : Cx} {W : Wd} {Wx : WX} {pr : List Nat} {G G' H H' : Hp} {env env' : En} {σ σ' : St} {Fs Fs' : Nat → Fp} {F F' : Fp}
/-! ### slices -/
def cutG {α : Type} (xs : List α) (lo hi : Option Int) : List α := (xs.drop (HT.sIx xs.length 0 lo)).take (HT.sIx xs.length xs.length hi - HT.sIx xs.length 0 lo)
def wholeG (n : Nat) (lo hi : Option Int) : Bool := decide (HT.sIx n 0 lo = 0) && decide (HT.sIx n n hi = n)
theorem paired_drop {α β : Type} {R : α → β → Prop} : ∀ (n : Nat) {l : List α} {m : List β}, Paired R l m → Paired R (l.drop n) (m.drop n)
  | 0, _, _, h => h
  | _ + 1, _, _, .nil => .nil
  | n + 1, _, _, .cons _ t => paired_drop n t
theorem paired_take {α β : Type} {R : α → β → Prop} : ∀ (n : Nat) {l : List α} {m : List β}, Paired R l m → Paired R (l.take n) (m.take n)
  | 0, _, _, _ => .nil
  | _ + 1, _, _, .nil => .nil
  | n + 1, _, _, .cons r t => .cons r (paired_take n t)
theorem RpDs.cut {xs : List D} {vs : List V} (h : RpDs W G xs vs) (lo hi : Option Int) : RpDs W G (cutG xs lo hi) (cutV vs lo hi) := by
  unfold cutG cutV
  rw [h.length]
  exact paired_take _ (paired_drop _ h)
def oSl (x : O) (lo hi : Option Int) : Option O := match x with
  | .sh (.tup m xs) => some (.sh (if wholeG xs.length lo hi then .tup m xs else .tup false (cutG xs lo hi)))
  | x => (itemsD x).bind fun p => if p.1 then some (.lst ((cutG p.2 lo hi).map .sh)) else none
def tPt (W : Wd) (Wx : WX) (env : En) (r : R Unit (Option Int)) : TO := fun σ H Q => ∃ G Fs, Sim W G env σ H Fs ∧ match r with
  | .ok o => ∀ G' H', Step W G H Emp G' H' Emp → Q o H'
  | .exc c _ => ∀ G' H', Step W G H Emp G' H' Emp → Wx (.ref (W.C.cls c)) none σ H'
  | .stk => False
def SO (X : Cx) (W : Wd) (Wx : WX) (f : En → R Unit (Option Int)) (e : Option Expr) : Prop := ∀ env, PO X e (tPt W Wx env (f env))
theorem _root_.L2.PO.imp {e : Option Expr} {t t' : TO} (h : PO X e t) (hi : ∀ σ H Q, t' σ H Q → t σ H Q) : PO X e t' := ⟨fun pins s σ H Q I q => h.run pins s σ H Q I (hi σ H Q q)⟩
def pNo : En → R Unit (Option Int) := fun _ => .ok none
def pI (f : En → RP) : En → R Unit (Option Int) := fun env => (f env).bind fun x => ofO ((asI x).map some)
theorem SO_no : SO X W Wx pNo none := fun env => po_none.imp fun σ H Q => by
  rintro ⟨G, Fs, S, q⟩
  exact q G H S.refl
theorem SO_some {f : En → RP} {e : Expr} (h : SP X W Wx f e) : SO X W Wx (pI f) (some e) := fun env => (po_some (h env)).imp fun σ H Q => by
  rintro ⟨G, Fs, S, q⟩
  refine ⟨G, Fs, S, ?_⟩
  unfold pI at q
  cases e1 : f env with
  | stk => rw [e1] at q; exact q
  | exc c u => rw [e1] at q; exact q
  | ok x =>
    rw [e1, bind_ok] at q
    intro v G1 H1 F1 s1 r1
    cases e2 : asI x with
    | none => rw [e2] at q; exact q.elim
    | some i =>
      rw [e2] at q
      rw [asI_some e2] at r1
      exact ⟨i, rp_int r1, q G1 H1 s1⟩
def bSl (f : En → RP) (l h : En → R Unit (Option Int)) : En → RP := fun env => (f env).bind fun x => (l env).bind fun a => (h env).bind fun b => ofO (oSl x a b)
def rSl2 (K : PySem.W.Frag) : V → Option Int → Option Int → Hp → VK → Prop := fun x lo hi H Q => rSlL K x lo hi H Q ∨ rSlA K x lo hi H Q
theorem oSl_ok {K : PySem.W.Frag} {x z : O} {lo hi : Option Int} {v : V} {F1 : Fp} {Q : VK} (le : Sub G H) (b : TabOk W H) (r : RpO W.C G H x v F1) (e : oSl x lo hi = some z) (q : ∀ w G' H' F', Step W G H Emp G' H' F' → RpO W.C G' H' z w F' → Q w H') : rSl2 K v lo hi H Q := by
  unfold oSl at e
  split at e
  · rename_i m xs
    cases e
    have r' := rp_sh r
    cases r' with
    | @tup _ _ p vs h1 h2 h3 =>
      have hs := paired_of h2 h3
      refine .inr ⟨p, vs, rfl, .inl (Rd.sub le h1.rd), fun hw => ?_, fun hw p' hp' => ?_⟩
      · have : wholeG xs.length lo hi = true := by unfold wholeG; rw [h2, decide_eq_true hw.1, decide_eq_true hw.2]; rfl
        rw [this, if_pos rfl] at q
        exact q _ G H Emp (Step.refl le b) (.sh' (.tup h1 h2 h3))
      · have : wholeG xs.length lo hi = false := by
          unfold wholeG
          rw [h2]
          by_cases h : HT.sIx vs.length 0 lo = 0
          · rw [decide_eq_true h, decide_eq_false fun h' => hw ⟨h, h'⟩]; rfl
          · rw [decide_eq_false h]; rfl
        rw [this, if_neg (by decide)] at q
        refine q _ _ _ Emp (step_sh le b hp') (.sh' (RpDs.tup upd_same ?_))
        exact (RpDs.cut (W := W) (G := G) hs lo hi).sub (sub_upd (none_of_le le hp'))
  · cases e1 : itemsD x with
    | none => rw [e1] at e; cases e
    | some p =>
      obtain ⟨bb, ds⟩ := p
      rw [e1, Option.bind_some] at e
      cases bb with
      | false => cases e
      | true =>
        cases e
        obtain ⟨p, ws, rfl, hs, hp⟩ := itemsD_some (K := K) le r e1
        refine .inl ⟨p, ws, rfl, by simpa using hs, fun p' hp' => ?_⟩
        exact q _ _ _ _ (step_own le b hp') (RpDs.own (none_of_le le hp') upd_same (RpDs.cut hp lo hi))
theorem SV_slice {f : En → RP} {l h : En → R Unit (Option Int)} {e : Expr} {lo hi : Option Expr} {pos p2 : Pos} (he : SP X W Wx f e) (hl : SO X W Wx l lo) (hh : SO X W Wx h hi) : SV X W Wx (bSl f l h) (.Subscript e (.Slice lo hi none p2) pos) := fun env =>
  (pe_slice (r := rSl2 X.K) (SlR.or sl_list sl_tupA) (he env) (hl env) (hh env)).imp fun σ H Q => by
    rintro ⟨G, Fs, S, q⟩
    refine ⟨G, Fs, S, ?_⟩
    unfold bSl at q
    cases e1 : f env with
    | stk => rw [e1] at q; exact q
    | exc c u => rw [e1] at q; exact q
    | ok x =>
      rw [e1, bind_ok] at q
      intro v G1 H1 F1 s1 r1
      refine ⟨G1, Fs, S.step0 s1, ?_⟩
      cases e2 : l env with
      | stk => rw [e2] at q; exact q
      | exc c u => rw [e2] at q; exact fun G' H' s => q G' H' (s1.trans s)
      | ok a =>
        rw [e2, bind_ok] at q
        intro G2 H2 s2
        refine ⟨G2, Fs, (S.step0 s1).step0 s2, ?_⟩
        cases e3 : h env with
        | stk => rw [e3] at q; exact q
        | exc c u => rw [e3] at q; exact fun G' H' s => q G' H' ((s1.trans s2).trans s)
        | ok b =>
          rw [e3, bind_ok] at q
          intro G3 H3 s3
          cases e4 : oSl x a b with
          | none => rw [e4] at q; exact q.elim
          | some z =>
            rw [e4] at q
            exact oSl_ok s3.le s3.b ((r1.step0 s2).step0 s3) e4 fun w G' H' F' s r => q w G' H' F' (((s1.trans s2).trans s3).trans s) r

/-! ### displays -/
def bTup (f : En → R Unit (List O)) : En → RP := fun env => (f env).bind fun xs => ofO ((allSh xs).bind fun ds => if szOk ds.length then some (.sh (.tup false ds)) else none)
def bLst (f : En → R Unit (List O)) : En → RP := fun env => (f env).bind fun xs => ofO ((allSh xs).bind fun ds => if szOk ds.length then some (.lst (ds.map .sh)) else none)
theorem RpL.ds {xs : List O} {vs : List V} {ds : List D} (r : RpL W G H xs vs) (e : allSh xs = some ds) : RpDs W G ds vs := by
  rw [allSh_some e] at r
  exact RpDs.of r
theorem SV_tup {f : En → R Unit (List O)} {es : List Expr} {x1} {pos : Pos} (h : SA X W Wx f es) : SV X W Wx (bTup f) (.Tuple es x1 pos) := fun env => (pe_tup (h env)).imp fun σ H Q => by
  rintro ⟨G, Fs, S, q⟩
  refine ⟨G, Fs, S, ?_⟩
  unfold bTup at q
  cases e1 : f env with
  | stk => rw [e1] at q; exact q
  | exc c u => rw [e1] at q; exact q
  | ok xs =>
    rw [e1, bind_ok] at q
    intro vs G1 H1 s1 r1
    cases e2 : allSh xs with
    | none => rw [e2] at q; exact q.elim
    | some ds =>
      rw [e2, Option.bind_some] at q
      have hd := r1.ds e2
      cases hz : szOk ds.length with
      | false => rw [hz, if_neg (by decide)] at q; exact q.elim
      | true =>
        rw [hz, if_pos rfl] at q
        refine ⟨by rw [← hd.length]; exact szOk_sz hz, fun p hp => ?_⟩
        exact q _ _ _ Emp (s1.trans (step_sh s1.le s1.b hp)) (.sh' (RpDs.tup upd_same (hd.sub (sub_upd (none_of_le s1.le hp)))))
theorem SV_lst {f : En → R Unit (List O)} {es : List Expr} {pos : Pos} (h : SA X W Wx f es) : SV X W Wx (bLst f) (.List es pos) := fun env => (pe_lst (h env)).imp fun σ H Q => by
  rintro ⟨G, Fs, S, q⟩
  refine ⟨G, Fs, S, ?_⟩
  unfold bLst at q
  cases e1 : f env with
  | stk => rw [e1] at q; exact q
  | exc c u => rw [e1] at q; exact q
  | ok xs =>
    rw [e1, bind_ok] at q
    intro vs G1 H1 s1 r1
    cases e2 : allSh xs with
    | none => rw [e2] at q; exact q.elim
    | some ds =>
      rw [e2, Option.bind_some] at q
      have hd := r1.ds e2
      cases hz : szOk ds.length with
      | false => rw [hz, if_neg (by decide)] at q; exact q.elim
      | true =>
        rw [hz, if_pos rfl] at q
        refine ⟨by rw [← hd.length]; exact szOk_sz hz, fun p hp => ?_⟩
        exact q _ _ _ _ (s1.trans (step_own s1.le s1.b hp)) (RpDs.own (none_of_le s1.le hp) upd_same hd)

/-! ### built-ins -/
def oAbs : List O → Option O
  | [x] => (asI x).bind fun i => some (.sh (.int (if i < 0 then -i else i)))
  | _ => none
theorem opN_1 {r : List V → Hp → VK → Prop} {go : List O → Option O} (h1 : ∀ xs z, go xs = some z → ∃ x, xs = [x]) (h : ∀ (G H : Hp) (x z : O) (v : V) (F1 : Fp) (Q : VK), Sub G H → TabOk W H → RpO W.C G H x v F1 → go [x] = some z →
    (∀ w G' H' F', Step W G H Emp G' H' F' → RpO W.C G' H' z w F' → Q w H') → r [v] H Q) : OpN W r go := by
  intro G H xs z vs Q le b rl e q
  obtain ⟨x, rfl⟩ := h1 xs z e
  cases rl with
  | cons r1 r2 =>
    cases r2
    obtain ⟨F1, r1⟩ := r1
    exact h G H x z _ F1 Q le b r1 e q
theorem v_abs : CallR X (.builtin "abs") (fun xs H Q => ∃ i, xs = [.int i] ∧ Q (.int (if i < 0 then -i else i)) H) ∧ OpN W (fun xs H Q => ∃ i, xs = [.int i] ∧ Q (.int (if i < 0 then -i else i)) H) oAbs := by
  refine ⟨call_abs, opN_1 (fun xs z h => ?_) fun G H x z v F1 Q le b r e q => ?_⟩
  · unfold oAbs at h
    split at h
    · exact ⟨_, rfl⟩
    · cases h
  · cases e1 : asI x with
    | none => rw [show oAbs [x] = (asI x).bind _ from rfl, e1] at e; cases e
    | some i =>
      rw [show oAbs [x] = (asI x).bind _ from rfl, e1] at e
      cases e
      rw [asI_some e1] at r
      exact ⟨i, by rw [rp_int r], q _ G H Emp (Step.refl le b) (.sh' (.int _))⟩
def oInt : List O → Option O
  | [.sh (.int i)] => some (.sh (.int i))
  | [.sh (.bl k)] => some (.sh (.int (if k then 1 else 0)))
  | _ => none
theorem v_int1 : CallR X (.type "int") (fun xs H Q => (∃ i, xs = [.int i] ∧ Q (.int i) H) ∨ ∃ k, xs = [.bl k] ∧ Q (.int (if k then 1 else 0)) H) ∧ OpN W (fun xs H Q => (∃ i, xs = [.int i] ∧ Q (.int i) H) ∨ ∃ k, xs = [.bl k] ∧ Q (.int (if k then 1 else 0)) H) oInt := by
  refine ⟨call_int1, opN_1 (fun xs z h => ?_) fun G H x z v F1 Q le b r e q => ?_⟩
  · unfold oInt at h
    split at h
    · exact ⟨_, rfl⟩
    · exact ⟨_, rfl⟩
    · cases h
  · unfold oInt at e
    split at e
    · rename_i e0
      cases e0
      cases e
      exact .inl ⟨_, by rw [rp_int r], q _ G H Emp (Step.refl le b) (.sh' (.int _))⟩
    · rename_i e0
      cases e0
      cases e
      have r' := rp_sh r
      cases r'
      exact .inr ⟨_, rfl, q _ G H Emp (Step.refl le b) (.sh' (.int _))⟩
    · cases e
def oMax : List O → Option O
  | [x, y] => (asI x).bind fun i => (asI y).bind fun j => some (.sh (.int (if j > i then j else i)))
  | _ => none
def oMin : List O → Option O
  | [x, y] => (asI x).bind fun i => (asI y).bind fun j => some (.sh (.int (if j < i then j else i)))
  | _ => none
theorem opN_2I {g : Int → Int → Int} : OpN W (fun xs H Q => ∃ i j, xs = [.int i, .int j] ∧ Q (.int (g i j)) H) (fun xs => match xs with | [x, y] => (asI x).bind fun i => (asI y).bind fun j => some (.sh (.int (g i j))) | _ => none) := by
  intro G H xs z vs Q le b rl e q
  dsimp only at e
  split at e
  · rename_i x y
    cases rl with
    | cons r1 r2 =>
      cases r2 with
      | cons r2 r3 =>
        cases r3
        obtain ⟨F1, r1⟩ := r1
        obtain ⟨F2, r2⟩ := r2
        cases e1 : asI x with
        | none => rw [e1] at e; cases e
        | some i =>
          rw [e1, Option.bind_some] at e
          cases e2 : asI y with
          | none => rw [e2] at e; cases e
          | some j =>
            rw [e2] at e
            cases e
            rw [asI_some e1] at r1
            rw [asI_some e2] at r2
            exact ⟨i, j, by rw [rp_int r1, rp_int r2], q _ G H Emp (Step.refl le b) (.sh' (.int _))⟩
  · cases e
theorem v_max2 (hc : X.calm = true) : CallR X (.builtin "max") (fun xs H Q => ∃ i j, xs = [.int i, .int j] ∧ Q (.int (if j > i then j else i)) H) ∧ OpN W (fun xs H Q => ∃ i j, xs = [.int i, .int j] ∧ Q (.int (if j > i then j else i)) H) oMax := ⟨call_max2 hc, fun G H xs z vs Q le b rl e q => opN_2I (g := fun i j => if j > i then j else i) G H xs z vs Q le b rl (by rw [← e]; rfl) q⟩
theorem v_min2 (hc : X.calm = true) : CallR X (.builtin "min") (fun xs H Q => ∃ i j, xs = [.int i, .int j] ∧ Q (.int (if j < i then j else i)) H) ∧ OpN W (fun xs H Q => ∃ i j, xs = [.int i, .int j] ∧ Q (.int (if j < i then j else i)) H) oMin := ⟨call_min2 hc, fun G H xs z vs Q le b rl e q => opN_2I (g := fun i j => if j < i then j else i) G H xs z vs Q le b rl (by rw [← e]; rfl) q⟩
/-! lists of ints, sorted -/
def insI (a : Int) : List Int → List Int
  | [] => [a]
  | b :: r => if a ≤ b then a :: b :: r else b :: insI a r
def sortI : List Int → List Int
  | [] => []
  | a :: r => insI a (sortI r)
theorem insI_perm (a : Int) : ∀ l : List Int, (insI a l).Perm (a :: l)
  | [] => List.Perm.refl _
  | b :: r => by
    unfold insI
    split
    · exact List.Perm.refl _
    · exact ((insI_perm a r).cons b).trans (List.Perm.swap a b r)
theorem sortI_perm : ∀ l : List Int, (sortI l).Perm l
  | [] => List.Perm.refl _
  | a :: r => (insI_perm a _).trans ((sortI_perm r).cons a)
theorem insI_sorted (a : Int) : ∀ l : List Int, l.Pairwise (· ≤ ·) → (insI a l).Pairwise (· ≤ ·)
  | [], _ => by simp [insI]
  | b :: r, h => by
    unfold insI
    rw [List.pairwise_cons] at h
    split
    · rename_i hab
      rw [List.pairwise_cons, List.pairwise_cons]
      refine ⟨fun c hc => ?_, h⟩
      rcases List.mem_cons.mp hc with rfl | hc
      · exact hab
      · exact Int.le_trans hab (h.1 c hc)
    · rename_i hab
      rw [List.pairwise_cons]
      refine ⟨fun c hc => ?_, insI_sorted a r h.2⟩
      rcases List.mem_cons.mp ((insI_perm a r).mem_iff.mp hc) with rfl | hc
      · omega
      · exact h.1 c hc
theorem sortI_sorted : ∀ l : List Int, (sortI l).Pairwise (· ≤ ·)
  | [] => List.Pairwise.nil
  | a :: r => insI_sorted a _ (sortI_sorted r)
theorem sortI_unique {l m : List Int} (h1 : m.Perm l) (h2 : m.Pairwise (· ≤ ·)) : m = sortI l :=
  List.Perm.eq_of_pairwise (fun a b _ _ => Int.le_antisymm) h2 (sortI_sorted l) (h1.trans (sortI_perm l).symm)
def intsD : List D → Option (List Int)
  | [] => some []
  | .int i :: r => (intsD r).map (i :: ·)
  | _ => none
theorem intsD_some : ∀ {ds : List D} {ns : List Int}, intsD ds = some ns → ds = ns.map .int
  | [], ns, h => by cases h; rfl
  | .int i :: r, ns, h => by
    unfold intsD at h
    cases e : intsD r with
    | none => rw [e] at h; cases h
    | some ms =>
      rw [e] at h
      cases h
      rw [intsD_some e]; rfl
  | .non :: _, _, h => by cases h
  | .bl _ :: _, _, h => by cases h
  | .str _ :: _, _, h => by cases h
  | .tup _ _ :: _, _, h => by cases h
  | .lst _ :: _, _, h => by cases h
  | .frl _ :: _, _, h => by cases h
  | .dK _ :: _, _, h => by cases h
  | .dT _ :: _, _, h => by cases h
  | .ins _ _ :: _, _, h => by cases h
@[simp] theorem intsD_map : ∀ ns : List Int, intsD (ns.map .int) = some ns
  | [] => rfl
  | i :: r => by show (intsD (r.map .int)).map (i :: ·) = _; rw [intsD_map r]; rfl
theorem ints_vals {ns : List Int} {vs : List V} (h : RpDs W G (ns.map .int) vs) : vs = ns.map V.int := by
  induction ns generalizing vs with
  | nil => cases h; rfl
  | cons n r ih =>
    cases h with
    | cons h1 h2 =>
      cases h1
      rw [ih h2]; rfl
theorem ints_rp (ns : List Int) : RpDs W G (ns.map .int) (ns.map V.int) := by
  induction ns with
  | nil => exact .nil
  | cons n r ih => exact .cons (.int n) ih
def oSorted : List O → Option O
  | [x] => (itemsD x).bind fun p => if p.1 then (intsD p.2).bind fun ns => some (.lst ((sortI ns).map fun i => .sh (.int i))) else none
  | _ => none
theorem shI (ns : List Int) : (ns.map fun i => O.sh (.int i)) = (ns.map D.int).map O.sh := by rw [List.map_map]; rfl
theorem v_sorted : CallR X (.builtin "sorted") (rSortedI X.K) ∧ OpN W (rSortedI X.K) oSorted := by
  refine ⟨cr_sortedI, opN_1 (fun xs z h => ?_) fun G H x z v F1 Q le b r e q => ?_⟩
  · unfold oSorted at h
    split at h
    · exact ⟨_, rfl⟩
    · cases h
  · replace e : ((itemsD x).bind fun p => if p.1 then (intsD p.2).bind fun ns => some (O.lst ((sortI ns).map fun i => .sh (.int i))) else none) = some z := e
    cases e1 : itemsD x with
    | none => rw [e1] at e; cases e
    | some p =>
      obtain ⟨bb, ds⟩ := p
      rw [e1, Option.bind_some] at e
      cases bb with
      | false => cases e
      | true =>
        rw [if_pos rfl] at e
        cases e2 : intsD ds with
        | none => rw [show intsD (true, ds).2 = none from e2] at e; cases e
        | some ns =>
          rw [show intsD (true, ds).2 = some ns from e2] at e
          cases e
          obtain ⟨p, ws, rfl, hs, hp⟩ := itemsD_some (K := X.K) le r e1
          rw [intsD_some e2] at hp
          rw [ints_vals hp] at hs
          refine ⟨p, ns, rfl, by simpa using hs, fun ns' p' hpm hpw hp' => ?_⟩
          rw [sortI_unique hpm hpw]
          refine q _ _ _ _ (step_own le b hp') ?_
          rw [shI]
          exact RpDs.own (none_of_le le hp') upd_same (ints_rp _)
/-! ### dict(pairs) -/
section
variable {κ : Type} [DecidableEq κ]
def putG {α : Type} (kvs : List (κ × α)) (k : κ) (v : α) : List (κ × α) := if (kvs.any fun kv => decide (kv.1 = k)) = true then kvs.map (fun kv => if kv.1 = k then (kv.1, v) else kv) else kvs ++ [(k, v)]
def mergeG {α : Type} (kvs more : List (κ × α)) : List (κ × α) := more.foldl (fun acc kv => putG acc kv.1 kv.2) kvs
def KVD {α β : Type} (R : α → β → Prop) (xs : List (κ × α)) (ys : List (κ × β)) : Prop := Paired (fun p q => p.1 = q.1 ∧ R p.2 q.2) xs ys
theorem KVD.any {α β : Type} {R : α → β → Prop} {xs : List (κ × α)} {ys : List (κ × β)} (h : KVD R xs ys) (k : κ) : (xs.any fun kv => decide (kv.1 = k)) = (ys.any fun kv => decide (kv.1 = k)) := by
  unfold KVD at h
  induction h with
  | nil => rfl
  | cons r _ ih => rw [List.any_cons, List.any_cons, ih, r.1]
theorem KVD.mapPut {α β : Type} {R : α → β → Prop} {k : κ} {a : α} {b : β} (r : R a b) : ∀ {xs : List (κ × α)} {ys : List (κ × β)}, KVD R xs ys → KVD R (xs.map (fun kv => if kv.1 = k then (kv.1, a) else kv)) (ys.map (fun kv => if kv.1 = k then (kv.1, b) else kv))
  | _, _, .nil => .nil
  | _, _, .cons (a := p) (b := q) h1 h2 => by
    refine .cons ?_ (KVD.mapPut r h2)
    obtain ⟨h1, h3⟩ := h1
    by_cases e : p.1 = k
    · dsimp only; rw [if_pos e, if_pos (by rw [← h1]; exact e)]; exact ⟨h1, r⟩
    · dsimp only; rw [if_neg e, if_neg (by rw [← h1]; exact e)]; exact ⟨h1, h3⟩
theorem KVD.app {α β : Type} {R : α → β → Prop} {k : κ} {a : α} {b : β} (r : R a b) : ∀ {xs : List (κ × α)} {ys : List (κ × β)}, KVD R xs ys → KVD R (xs ++ [(k, a)]) (ys ++ [(k, b)])
  | _, _, .nil => .cons ⟨rfl, r⟩ .nil
  | _, _, .cons h1 h2 => .cons h1 (KVD.app r h2)
theorem KVD.put {α β : Type} {R : α → β → Prop} {xs : List (κ × α)} {ys : List (κ × β)} {k : κ} {a : α} {b : β} (h : KVD R xs ys) (r : R a b) : KVD R (putG xs k a) (putG ys k b) := by
  unfold putG
  rw [h.any k]
  split
  · exact h.mapPut r
  · exact h.app r
theorem KVD.merge {α β : Type} {R : α → β → Prop} : ∀ {zs : List (κ × α)} {ws : List (κ × β)} {xs : List (κ × α)} {ys : List (κ × β)}, KVD R zs ws → KVD R xs ys → KVD R (mergeG xs zs) (mergeG ys ws) := by
  intro zs ws xs ys h
  unfold KVD at h
  induction h generalizing xs ys with
  | nil => intro h; exact h
  | @cons p q ps qs h1 h2 ih =>
    intro h
    obtain ⟨e, r⟩ := h1
    show KVD R (mergeG (putG xs p.1 p.2) ps) (mergeG (putG ys q.1 q.2) qs)
    rw [e]
    exact ih (h.put r)
theorem KVD.keys {α β : Type} {R : α → β → Prop} {xs : List (κ × α)} {ys : List (κ × β)} (h : KVD R xs ys) : xs.map (·.1) = ys.map (·.1) := by
  unfold KVD at h
  induction h with
  | nil => rfl
  | cons r _ ih => rw [List.map_cons, List.map_cons, ih, r.1]
theorem KVD.vals {α β : Type} {R : α → β → Prop} {xs : List (κ × α)} {ys : List (κ × β)} (h : KVD R xs ys) : Paired R (xs.map (·.2)) (ys.map (·.2)) := by
  unfold KVD at h
  induction h with
  | nil => exact .nil
  | cons r _ ih => exact .cons r.2 ih
end
theorem putK_putG (kvs : List (Key × V)) (k : Key) (v : V) : putK kvs k v = putG kvs k v := rfl
theorem mergeK_mergeG (kvs more : List (Key × V)) : mergeK kvs more = mergeG kvs more := rfl
def pairD : D → Option (Key × D)
  | .tup _ [k, d] => (keyD k).map fun q => (q, d)
  | _ => none
def pairsD : List D → Option (List (Key × D))
  | [] => some []
  | d :: ds => (pairD d).bind fun p => (pairsD ds).map (p :: ·)
theorem pairsD_some {K : PySem.W.Frag} (le : Sub G H) : ∀ {ds : List D} {kds : List (Key × D)} {vs : List V}, RpDs W G ds vs → pairsD ds = some kds →
    ∃ (ps : List Addr) (kvs : List (Key × V)), vs = ps.map V.ref ∧ Paired (fun p kv => SqT K H p [kV kv.1, kv.2]) ps kvs ∧ KVD (fun d v => RpD W.C G d v) kds kvs := by
  intro ds
  induction ds with
  | nil =>
    intro kds vs r e
    cases r
    cases e
    exact ⟨[], [], rfl, .nil, .nil⟩
  | cons d ds ih =>
    intro kds vs r e
    cases r with
    | @cons _ v _ us r1 r2 =>
      rw [pairsD] at e
      cases e1 : pairD d with
      | none => rw [e1] at e; cases e
      | some p =>
        rw [e1, Option.bind_some] at e
        cases e2 : pairsD ds with
        | none => rw [e2] at e; cases e
        | some ks =>
          rw [e2] at e
          cases e
          obtain ⟨ps, kvs, rfl, h1, h2⟩ := ih r2 e2
          unfold pairD at e1
          split at e1
          · rename_i m k x
            cases e3 : keyD k with
            | none => rw [e3] at e1; cases e1
            | some q =>
              rw [e3] at e1
              cases e1
              cases r1 with
              | @tup _ _ a ws t1 t2 t3 =>
                have hw := paired_of t2 t3
                cases hw with
                | @cons _ u _ _ w1 w2 =>
                  cases w2 with
                  | @cons _ u2 _ _ w2 w3 =>
                    cases w3
                    refine ⟨a :: ps, (q, u2) :: kvs, rfl, .cons ?_ h1, .cons ⟨rfl, w2⟩ h2⟩
                    have ek := keyD_some w1 e3
                    rw [ek] at t1
                    exact .inl (Rd.sub le t1.rd)
          · cases e1
def oDict : List O → Option O
  | [x] => (itemsD x).bind fun p => if p.1 then (pairsD p.2).bind fun ks => some (.dK ((mergeG [] ks).map fun q => (q.1, .sh q.2))) else none
  | _ => none
theorem RpD.ownK {xs : List (Key × D)} {vs : List (Key × V)} {p : Addr} (g : G p = none) (r : H p = some (.dK vs)) (h : KVD (fun d v => RpD W.C G d v) xs vs) : RpO W.C G H (.dK (xs.map fun q => (q.1, .sh q.2))) (.ref p) (fun a => a = p) := by
  refine .dK (fun _ => Emp) g r (by rw [List.map_map]; exact h.keys) (fun i d v e1 e2 => ?_) (fun _ _ _ _ h => h.elim) (fun _ _ h => h.elim) fun a => ⟨fun h => .inl h, fun h => h.elim id fun ⟨_, h⟩ => h.elim⟩
  obtain ⟨x, q, rfl⟩ := get_map2 e1
  exact .sh' (paired_get' h.vals i x v q e2)
theorem v_dict (hc : X.calm = true) : CallR X (.type "dict") (fun xs H Q => ∃ (a : Addr) (ps : List Addr) (kvs : List (Key × V)), xs = [.ref a] ∧ SqL X.K H a (ps.map V.ref) ∧ Paired (fun p kv => SqT X.K H p [kV kv.1, kv.2]) ps kvs ∧ ∀ p, H p = none → Q (.ref p) (upd H p (.dK (mergeK [] kvs)))) ∧
    OpN W (fun xs H Q => ∃ (a : Addr) (ps : List Addr) (kvs : List (Key × V)), xs = [.ref a] ∧ SqL X.K H a (ps.map V.ref) ∧ Paired (fun p kv => SqT X.K H p [kV kv.1, kv.2]) ps kvs ∧ ∀ p, H p = none → Q (.ref p) (upd H p (.dK (mergeK [] kvs)))) oDict := by
  refine ⟨call_dictP hc, opN_1 (fun xs z h => ?_) fun G H x z v F1 Q le b r e q => ?_⟩
  · unfold oDict at h
    split at h
    · exact ⟨_, rfl⟩
    · cases h
  · replace e : ((itemsD x).bind fun p => if p.1 then (pairsD p.2).bind fun ks => some (O.dK ((mergeG [] ks).map fun q => (q.1, .sh q.2))) else none) = some z := e
    cases e1 : itemsD x with
    | none => rw [e1] at e; cases e
    | some p =>
      obtain ⟨bb, ds⟩ := p
      rw [e1, Option.bind_some] at e
      cases bb with
      | false => cases e
      | true =>
        rw [if_pos rfl] at e
        cases e2 : pairsD ds with
        | none => rw [show pairsD (true, ds).2 = none from e2] at e; cases e
        | some ks =>
          rw [show pairsD (true, ds).2 = some ks from e2] at e
          cases e
          obtain ⟨p, ws, rfl, hs, hp⟩ := itemsD_some (K := X.K) le r e1
          obtain ⟨ps, kvs, rfl, h1, h2⟩ := pairsD_some (K := X.K) le hp e2
          refine ⟨p, ps, kvs, rfl, by simpa using hs, h1, fun p' hp' => ?_⟩
          exact q _ _ _ _ (step_own le b hp') (RpD.ownK (none_of_le le hp') upd_same (by rw [mergeK_mergeG]; exact KVD.merge h2 .nil))
end
end
end FD


set_option Elab.async false
set_option linter.all false
set_option maxRecDepth 100000
/-! F12: expressions that change the slots; mutators. -/
namespace FD
noncomputable section
open PySem PySem.Spec L2
section
variable {X : Cx} {W : Wd} {Wx : WX} {pr : List Nat} {G G' H H' : Hp} {env env' : En} {σ σ' : St} {Fs Fs' : Nat → Fp} {F F' : Fp}
/-- a new value behind an effect -/
theorem own_after {G1 H1 G2 H2 : Hp} {Fs1 : Nat → Fp} {e1 : En} (S1 : Sim W G1 e1 σ H1 Fs1) (s : Step W G1 H1 Emp G2 H2 F) (st : Step W G H (All Fs) G1 H1 (fun a => F' a ∨ All Fs1 a)) :
    Step W G H (All Fs) G2 H2 (fun a => F a ∨ All Fs1 a) ∧ Sim W G2 e1 σ H2 Fs1 ∧ (∀ i a, F a → ¬ Fs1 i a) := by
  refine ⟨st.trans (s.wide (fun _ h => h.elim) fun a h => h.elim .inr fun h => .inl (.inr h)), S1.step0 s, fun i a h1 h2 => ?_⟩
  obtain ⟨_, o, hh, _⟩ := S1.ow i a h2
  rcases s.f a h1 with z | z
  · exact z
  · rw [hh] at z; cases z
/-! ### two values -/
def eOp2 (go : O → O → Option O) (f g : En → RE) : En → RE := fun env => (f env).bind fun p => (g p.2).bind fun q => match go p.1 q.1 with
  | some z => .ok (z, q.2)
  | none => .stk
/-- the left one stands in a slot -/
def eOp2v (go : O → O → Option O) (i : Nat) (g : En → RE) : En → RE := fun env => match gt env i with
  | none => .stk
  | some _ => (g env).bind fun q => match (gt q.2 i).bind fun x => go x q.1 with
    | some z => .ok (z, q.2)
    | none => .stk
theorem eop2_core {ta tb : TE} {r : R2} {go : O → O → Option O} {f g : En → RE} (ho : Op2 W r go) {Q : VK} (ha : ∀ Q', tE W Wx env (f env) σ H Q' → ta σ H Q') (hb : ∀ e H' Q', tE W Wx e (g e) σ H' Q' → tb σ H' Q')
    (q : tE W Wx env (eOp2 go f g env) σ H Q) : tOp r ta tb σ H Q := by
  obtain ⟨G, Fs, S, q⟩ := q
  refine ha _ ⟨G, Fs, S, ?_⟩
  unfold eOp2 at q
  cases e1 : f env with
  | stk => rw [e1] at q; exact q
  | exc c u => rw [e1] at q; exact q
  | ok p =>
    obtain ⟨x, e2⟩ := p
    rw [e1, bind_ok] at q
    intro v G1 H1 F1 Fs1 s1 r1 S1 d1
    refine hb e2 _ _ ⟨G1, Fs1, S1, ?_⟩
    dsimp only at q
    have dd : ∀ a, F1 a → ¬ All Fs1 a := fun a h1 ⟨i, h2⟩ => d1 i a h1 h2
    cases e3 : g e2 with
    | stk => rw [e3] at q; exact q
    | exc c u => rw [e3] at q; exact fun G' H' Fs' s S' => q G' H' Fs' (s1.trans (s.wide (fun _ h => .inr h) fun _ h => .inr h)) S'
    | ok p =>
      obtain ⟨y, e4⟩ := p
      rw [e3, bind_ok] at q
      intro u G2 H2 F2 Fs2 s2 r2 S2 d2
      dsimp only at q
      have st2 : Step W G H (All Fs) G2 H2 (fun a => F2 a ∨ All Fs2 a) := s1.trans (s2.wide (fun _ h => .inr h) fun a h => .inr h)
      cases e5 : go x y with
      | none => rw [e5] at q; exact q.elim
      | some z =>
        rw [e5] at q
        refine ho G2 H2 x y z v u F1 F2 Q s2.le s2.b (r1.step s2 dd) r2 e5 fun w G' H' F' s r => ?_
        obtain ⟨a1, a2, a3⟩ := own_after S2 s st2
        exact q w G' H' F' Fs2 a1 r a2 a3
theorem eop2v_core {tb : TE} {r : R2} {go : O → O → Option O} {i : Nat} {g : En → RE} (ho : Op2 W r go) {Q : VK} (hb : ∀ e H' Q', tE W Wx e (g e) σ H' Q' → tb σ H' Q')
    (q : tE W Wx env (eOp2v go i g env) σ H Q) : tOp r (tVar i) tb σ H Q := by
  obtain ⟨G, Fs, S, q⟩ := q
  unfold eOp2v at q
  cases e0 : gt env i with
  | none => rw [e0] at q; exact q.elim
  | some x0 =>
    rw [e0] at q
    obtain ⟨v, h1, _⟩ := S.rp i x0 (gt_some e0)
    refine ⟨v, h1, hb env _ _ ⟨G, Fs, S, ?_⟩⟩
    dsimp only at q
    cases e3 : g env with
    | stk => rw [e3] at q; exact q
    | exc c u => rw [e3] at q; exact q
    | ok p =>
      obtain ⟨y, e4⟩ := p
      rw [e3, bind_ok] at q
      intro u G2 H2 F2 Fs2 s2 r2 S2 d2
      dsimp only at q
      cases e5 : gt e4 i with
      | none => rw [e5] at q; exact q.elim
      | some x =>
        rw [e5, Option.bind_some] at q
        obtain ⟨v', h2, r1⟩ := S2.rp i x (gt_some e5)
        rw [h1] at h2
        cases h2
        cases e6 : go x y with
        | none => rw [e6] at q; exact q.elim
        | some z =>
          rw [e6] at q
          refine ho G2 H2 x y z v u _ F2 Q s2.le s2.b r1 r2 e6 fun w G' H' F' s r => ?_
          obtain ⟨a1, a2, a3⟩ := own_after S2 s s2
          exact q w G' H' F' Fs2 a1 r a2 a3
theorem SE_op {op : Operator} {r : R2} {go : O → O → Option O} {f g : En → RE} {a b : Expr} {pos : Pos} (hr : OpR X (binaryOp op) r) (ho : Op2 W r go) (ha : SE X W Wx f a) (hb : SE X W Wx g b) : SE X W Wx (eOp2 go f g) (.BinOp a op b pos) :=
  fun env => (pe_op hr (ha env) (PE_any hb)).imp fun σ H Q q => eop2_core ho (fun _ h => h) (fun e _ _ h => ⟨e, h⟩) q
theorem SE_cmp {op : CmpOp} {r : R2} {go : O → O → Option O} {f g : En → RE} {a b : Expr} {pos : Pos} (hr : OpR X (compareOp op) r) (ho : Op2 W r go) (ha : SE X W Wx f a) (hb : SE X W Wx g b) (hm : behindInMarks op b = false) : SE X W Wx (eOp2 go f g) (.Compare a [op] [b] pos) :=
  fun env => (pe_cmpR hr (ha env) (PE_any hb) hm).imp fun σ H Q q => eop2_core ho (fun _ h => h) (fun e _ _ h => ⟨e, h⟩) q
theorem SE_ix {r : R2} {go : O → O → Option O} {f g : En → RE} {a b : Expr} {pos : Pos} (hr : IxR X r) (ho : Op2 W r go) (ha : SE X W Wx f a) (hb : SE X W Wx g b) (hs : PlainIx b) : SE X W Wx (eOp2 go f g) (.Subscript a b pos) :=
  fun env => (pe_ix hr (ha env) (PE_any hb) hs).imp fun σ H Q q => eop2_core ho (fun _ h => h) (fun e _ _ h => ⟨e, h⟩) q
theorem SE_ixv (i : Nat) {r : R2} {go : O → O → Option O} {g : En → RE} {x : Str} {pos' : Pos} {b : Expr} {pos : Pos} (hr : IxR X r) (ho : Op2 W r go) (hb : SE X W Wx g b) (hs : PlainIx b) (hN : X.N[i]? = some x := by rfl) (hv : Vis X.env.scope x := by first | exact Or.inl rfl | exact Or.inr (Or.inl rfl) | exact Or.inr (Or.inr rfl)) (hd : (x == ("__debug__" : Str)) = false := by decide)
    (hcd : (x == ("__classdict__" : Str)) = false := by decide) : SE X W Wx (eOp2v go i g) (.Subscript (.Name x pos') b pos) :=
  fun env => (pe_ix hr (pe_var hN hv hd hcd) (PE_any hb) hs).imp fun σ H Q q => eop2v_core ho (fun e _ _ h => ⟨e, h⟩) q
theorem SE_opv (i : Nat) {op : Operator} {r : R2} {go : O → O → Option O} {g : En → RE} {x : Str} {pos' : Pos} {b : Expr} {pos : Pos} (hr : OpR X (binaryOp op) r) (ho : Op2 W r go) (hb : SE X W Wx g b) (hN : X.N[i]? = some x := by rfl) (hv : Vis X.env.scope x := by first | exact Or.inl rfl | exact Or.inr (Or.inl rfl) | exact Or.inr (Or.inr rfl)) (hd : (x == ("__debug__" : Str)) = false := by decide)
    (hcd : (x == ("__classdict__" : Str)) = false := by decide) : SE X W Wx (eOp2v go i g) (.BinOp (.Name x pos') op b pos) :=
  fun env => (pe_op hr (pe_var hN hv hd hcd) (PE_any hb)).imp fun σ H Q q => eop2v_core ho (fun e _ _ h => ⟨e, h⟩) q
/-! ### one value -/
def e1 (go : List O → Option O) (f : En → RE) : En → RE := fun env => (f env).bind fun p => match go [p.1] with
  | some z => .ok (z, p.2)
  | none => .stk
theorem e1_core {ta : TE} {r : List V → Hp → VK → Prop} {go : List O → Option O} {f : En → RE} (ho : OpN W r go) {Q : VK} (ha : ∀ Q', tE W Wx env (f env) σ H Q' → ta σ H Q') (q : tE W Wx env (e1 go f env) σ H Q) : tCB r (tCons ta tNil) σ H Q := by
  obtain ⟨G, Fs, S, q⟩ := q
  refine ha _ ⟨G, Fs, S, ?_⟩
  unfold FD.e1 at q
  cases e1 : f env with
  | stk => rw [e1] at q; exact q
  | exc c u => rw [e1] at q; exact q
  | ok p =>
    obtain ⟨x, e2⟩ := p
    rw [e1, bind_ok] at q
    intro v G1 H1 F1 Fs1 s1 r1 S1 d1
    dsimp only at q
    cases e3 : go [x] with
    | none => rw [e3] at q; exact q.elim
    | some z =>
      rw [e3] at q
      refine ho G1 H1 [x] z [v] Q s1.le s1.b (.cons ⟨F1, r1⟩ .nil) e3 fun w G' H' F' s r => ?_
      obtain ⟨a1, a2, a3⟩ := own_after S1 s s1
      exact q w G' H' F' Fs1 a1 r a2 a3
theorem SE_callB1 {id : String} {x : Str} {p pos : Pos} {e : Expr} {r : List V → Hp → VK → Prop} {go : List O → Option O} {f : En → RE} (hc : CallR X (.builtin id) r) (ho : OpN W r go) (hg : Gl X x) (hm : X.mg x = none) (hv : bootBuiltins x = some (.builtin id)) (ha : SE X W Wx f e)
    (hn : x ≠ "__name__" := by decide) (hdb : (x == ("__debug__" : Str)) = false := by decide) (he : starEach [e] X.env = (false, eval e X.env) :: starEach [] X.env := by rfl) (hpl : (backTo pos (starEach [] X.env)).any (·.1) = false := by rfl) :
    SE X W Wx (e1 go f) (.Call (.Name x p) [e] [] pos) := fun env => (pe_callB hc hg hm hv (pa_cons (ha env) pa_nil he) hn hdb he hpl).imp fun σ H Q q => e1_core ho (fun _ h => h) q
theorem SE_callTy1 {T : String} {x : Str} {p pos : Pos} {e : Expr} {r : List V → Hp → VK → Prop} {go : List O → Option O} {f : En → RE} (hc : CallR X (.type T) r) (ho : OpN W r go) (hg : Gl X x) (hm : X.mg x = none) (hv : bootBuiltins x = some (.type T)) (ha : SE X W Wx f e)
    (hn : x ≠ "__name__" := by decide) (hdb : (x == ("__debug__" : Str)) = false := by decide) (he : starEach [e] X.env = (false, eval e X.env) :: starEach [] X.env := by rfl) (hpl : (backTo pos (starEach [] X.env)).any (·.1) = false := by rfl) :
    SE X W Wx (e1 go f) (.Call (.Name x p) [e] [] pos) := fun env => (pe_callTy hc hg hm hv (pa_cons (ha env) pa_nil he) hn hdb he hpl).imp fun σ H Q q => e1_core ho (fun _ h => h) q
/-! ### tests -/
def uV (f : En → RE) : En → R En (Bool × En) := fun env => (f env).bind fun p => match asB p.1 with
  | some b => .ok (b, p.2)
  | none => .stk
theorem uV_core {t : TE} {f : En → RE} {Q : Bool → Hp → Prop} (h : ∀ Q', tE W Wx env (f env) σ H Q' → t σ H Q') (q : tU W Wx env (uV f env) σ H Q) : tB t σ H Q := by
  obtain ⟨G, Fs, S, q⟩ := q
  refine h _ ⟨G, Fs, S, ?_⟩
  unfold uV at q
  cases e1 : f env with
  | stk => rw [e1] at q; exact q
  | exc c u => rw [e1] at q; exact q
  | ok p =>
    obtain ⟨x, e2⟩ := p
    rw [e1, bind_ok] at q
    intro v G1 H1 F1 Fs1 s1 r1 S1 d1
    dsimp only at q
    cases e3 : asB x with
    | none => rw [e3] at q; exact q.elim
    | some b =>
      rw [e3] at q
      obtain ⟨rfl, rfl⟩ := rp_bl r1 e3
      exact ⟨b, rfl, q G1 H1 Fs1 (s1.wide (fun _ h => h) fun a h => .inr (.inr h)) S1⟩
theorem SU_val {f : En → RE} {e : Expr} (h : SE X W Wx f e) (he : ∀ whole, isTrue e X.env whole = (do let v ← whole; standAt e.pos; holding [v] (truthy v)) := by intro _; rfl) : SU X W Wx (uV f) e :=
  fun env => (pt_val (h env) he).imp fun σ H Q q => uV_core (fun _ h => h) q
theorem SU_cmp {op : CmpOp} {r : R2} {go : O → O → Option O} {f g : En → RE} {a b : Expr} {pos : Pos} (hr : OpR X (compareOp op) r) (ho : Op2 W r go) (ha : SE X W Wx f a) (hb : SE X W Wx g b) (hm : behindInMarks op b = false) : SU X W Wx (uV (eOp2 go f g)) (.Compare a [op] [b] pos) :=
  fun env => (pt_cmpR hr (ha env) (PE_any hb) hm).imp fun σ H Q q => by
    show tOp r _ _ σ H fun x H' => ∃ k, x = .bl k ∧ Q k H'
    have := uV_core (t := tE W Wx env (eOp2 go f g env)) (fun _ h => h) q
    exact eop2_core ho (fun _ h => h) (fun e _ _ h => ⟨e, h⟩) this
/-! ### displays -/
theorem froz_all {ds : List O} {vs : List V} {FA : Nat → Fp} (A : ArgsOk W G H ds vs FA) (le : Sub G H) : RpDs W (addG G H (All FA)) (ds.map O.frz) vs := by
  have hs : Sub G (addG G H (All FA)) := fun a o h => by
    unfold addG
    split
    · exact le a o h
    · exact h
  refine paired_of (by rw [List.length_map]; exact A.len) fun i d v e1 e2 => ?_
  rw [List.getElem?_map] at e1
  cases e3 : ds[i]? with
  | none => rw [e3] at e1; cases e1
  | some x =>
    rw [e3] at e1
    cases e1
    exact (A.rp i x v e3 e2).froz hs fun a ha => by unfold addG; rw [if_pos ⟨i, ha⟩]
theorem addG_all (s : Step W G H F G' H' (fun a => F' a ∨ All Fs a)) : Step W G H F (addG G' H' F') H' (All Fs) := by
  have hs : Sub G' (addG G' H' F') := fun a o h => by
    unfold addG
    split
    · exact s.le a o h
    · exact h
  refine ⟨fun a o h => hs a o (s.g a o h), s.h, s.t, fun a h => ?_, fun a h => s.f a (.inr h), fun a o h => ?_, s.b⟩
  · unfold addG at h
    split at h
    · rename_i hf
      rcases s.f a (.inl hf) with z | z
      · exact .inr (.inl z)
      · exact .inr (.inr z)
    · exact s.n a h
  · unfold addG at h
    split at h
    · exact h
    · exact s.le a o h
def eTup (f : En → R En (List O × En)) : En → RE := fun env => (f env).bind fun p => if szOk p.1.length then .ok (.sh (.tup false (p.1.map O.frz)), p.2) else .stk
def eLst (f : En → R En (List O × En)) : En → RE := fun env => (f env).bind fun p => if szOk p.1.length then .ok (.lst p.1, p.2) else .stk
theorem SE_tup {ks : List (Option Nat)} {f : En → R En (List O × En)} {es : List Expr} {x1} {pos : Pos} (h : SN X W Wx ks f es) : SE X W Wx (eTup f) (.Tuple es x1 pos) := fun env => (pe_tup (h env)).imp fun σ H Q => by
  rintro ⟨G, Fs, S, q⟩
  refine ⟨G, Fs, S, ?_⟩
  unfold eTup at q
  cases e1 : f env with
  | stk => rw [e1] at q; exact q
  | exc c u => rw [e1] at q; exact q
  | ok p =>
    obtain ⟨ds, e2⟩ := p
    rw [e1, bind_ok] at q
    intro vs G1 H1 FA Fs1 s1 A1 S1 d1 _
    dsimp only at q
    cases hz : szOk ds.length with
    | false => rw [hz, if_neg (by decide)] at q; exact q.elim
    | true =>
      rw [hz, if_pos rfl] at q
      refine ⟨by rw [← A1.len]; exact szOk_sz hz, fun p hp => ?_⟩
      have s2 := addG_all s1
      have S2 := S1.addG (F1 := All FA) fun i a ⟨j, h1⟩ h2 => d1 j i a h1 h2
      have r2 := froz_all A1 s1.le
      have s3 := step_sh s2.le s2.b hp (o := .tup vs)
      refine q _ _ _ Emp Fs1 (s2.trans (s3.wide (fun _ h => h.elim) fun a h => h.elim .inr .inl)) (.sh' (RpDs.tup upd_same (r2.sub (sub_upd (none_of_le s2.le hp))))) (S2.step0 s3) fun _ _ h => h.elim
theorem SE_lst {ks : List (Option Nat)} {f : En → R En (List O × En)} {es : List Expr} {pos : Pos} (h : SN X W Wx ks f es) : SE X W Wx (eLst f) (.List es pos) := fun env => (pe_lst (h env)).imp fun σ H Q => by
  rintro ⟨G, Fs, S, q⟩
  refine ⟨G, Fs, S, ?_⟩
  unfold eLst at q
  cases e1 : f env with
  | stk => rw [e1] at q; exact q
  | exc c u => rw [e1] at q; exact q
  | ok p =>
    obtain ⟨ds, e2⟩ := p
    rw [e1, bind_ok] at q
    intro vs G1 H1 FA Fs1 s1 A1 S1 d1 _
    dsimp only at q
    cases hz : szOk ds.length with
    | false => rw [hz, if_neg (by decide)] at q; exact q.elim
    | true =>
      rw [hz, if_pos rfl] at q
      refine ⟨by rw [← A1.len]; exact szOk_sz hz, fun p hp => ?_⟩
      have s3 := step_own s1.le s1.b hp (o := .lst vs)
      have nA : ∀ i a, FA i a → a ≠ p := fun i a ha e => by
        have hi := A1.bd i a ha
        obtain ⟨_, o, h2, _⟩ := (A1.rp i _ _ (List.getElem?_eq_getElem hi) (List.getElem?_eq_getElem (by rw [← A1.len]; exact hi))).own a ha
        rw [e, hp] at h2; cases h2
      have S3 := S1.step0 s3
      refine q _ _ _ (fun a => a = p ∨ All FA a) Fs1 (s1.trans (s3.wide (fun _ h => h.elim) fun a h => ?_)) (.lst FA (none_of_le s1.le hp) upd_same A1.len (fun i d v h1 h2 => (A1.rp i d v h1 h2).step0 s3) A1.dj (fun i a h => ⟨A1.bd i a h, nA i a h⟩) fun a => Iff.rfl) S3 fun i a h1 h2 => ?_
      · rcases h with (h | h) | h
        · exact .inr h
        · exact .inl (.inl h)
        · exact .inl (.inr h)
      · rcases h1 with h1 | ⟨j, h1⟩
        · obtain ⟨_, o, h3, _⟩ := S1.ow i a h2
          rw [h1, hp] at h3; cases h3
        · exact d1 j i a h1 h2
/-! ### iterables -/
def iE (f : En → RE) : En → R En (List D × En) := fun env => (f env).bind fun p => match itD p.1 with
  | some ds => .ok (ds, p.2)
  | none => .stk
theorem SI_e {tg e : Expr} {f : En → RE} (h : SE X W Wx f e) : SI X W Wx tg (iE f) e := fun env => (pi_seq (h env)).imp fun σ H R => by
  rintro ⟨G, Fs, S, q⟩
  refine ⟨G, Fs, S, ?_⟩
  unfold iE at q
  cases e1 : f env with
  | stk => rw [e1] at q; exact q
  | exc c u => rw [e1] at q; exact q
  | ok p =>
    obtain ⟨x, e2⟩ := p
    rw [e1, bind_ok] at q
    intro v G1 H1 F1 Fs1 s1 r1 S1 d1
    dsimp only at q
    have s1' := s1.wide (F1' := All Fs1) (fun _ h => h) fun a h => .inr (.inr h)
    cases x with
    | sh d =>
      cases e2 : asSeq d with
      | none => rw [show itD (.sh d) = none from e2] at q; exact q.elim
      | some ds =>
        rw [show itD (.sh d) = some ds from e2] at q
        obtain ⟨p, rfl, h⟩ := src_seq (K := X.K) (H := H1) s1.le (rp_sh r1) e2
        refine ⟨p, rfl, ?_⟩
        rcases h with ⟨h1, h2⟩ | ⟨h1, h2⟩
        · exact .inl ⟨h1, q _ G1 H1 Fs1 s1' S1 h2⟩
        · exact .inr ⟨h1, q _ G1 H1 Fs1 s1' S1 h2⟩
    | _ => exact q.elim
def iRange1 (f : En → RE) : En → R En (List D × En) := fun env => (f env).bind fun p => match asI p.1 with
  | some j => if okI j then .ok (rngD 0 j, p.2) else .stk
  | none => .stk
theorem SI_range1 {tg e : Expr} {f : En → RE} {p pos : Pos} (hg : Gl X "range") (hm : X.mg "range" = none) (h : SE X W Wx f e) (hs : starEach [e] X.env = [(false, eval e X.env)] := by rfl)
    (hs2 : starEach [e] X.env = (false, eval e X.env) :: starEach [] X.env := by rfl) : SI X W Wx tg (iRange1 f) (.Call (.Name "range" p) [e] [] pos) := fun env => (pi_range1 hg hm (pa_cons (h env) pa_nil hs2) hs).imp fun σ H R => by
  rintro ⟨G, Fs, S, q⟩
  refine ⟨G, Fs, S, ?_⟩
  unfold iRange1 at q
  cases e1 : f env with
  | stk => rw [e1] at q; exact q
  | exc c u => rw [e1] at q; exact q
  | ok p =>
    obtain ⟨x, e2⟩ := p
    rw [e1, bind_ok] at q
    intro v G1 H1 F1 Fs1 s1 r1 S1 d1
    dsimp only at q
    cases e2 : asI x with
    | none => rw [e2] at q; exact q.elim
    | some j =>
      rw [e2] at q
      rw [asI_some e2] at r1
      dsimp only at q
      cases hk : okI j with
      | false => rw [hk, if_neg (by decide)] at q; exact q.elim
      | true =>
        rw [hk, if_pos rfl] at q
        obtain ⟨h1, h2⟩ := okI_ok hk
        refine ⟨j, by rw [rp_int r1], h1, h2, ?_⟩
        exact q (Itr 0 j.toNat) G1 H1 Fs1 (s1.wide (fun _ h => h) fun a h => .inr (.inr h)) S1 (by have := src_range (W := W) (G := G1) (a := 0) (b := j); rwa [Int.sub_zero] at this)
end
end
end FD


set_option Elab.async false
set_option linter.all false
set_option maxRecDepth 100000
/-! F13: lists in slots changed in place. -/
namespace FD
noncomputable section
open PySem PySem.Spec L2
section
variable {X : Cx} {W : Wd} {Wx : WX} {pr : List Nat} {G G' H H' : Hp} {env env' : En} {σ σ' : St} {Fs Fs' : Nat → Fp} {F F' : Fp}
/-- the owned list in a slot -/
structure LstAt (W : Wd) (G H : Hp) (σ : St) (Fs : Nat → Fp) (i : Nat) (xs : List O) (p : Addr) (vs : List V) (Fa : Nat → Fp) : Prop where
  sl : σ[i]? = some (some (.ref p))
  g : G p = none
  h : H p = some (.lst vs)
  len : xs.length = vs.length
  rp : ∀ (k : Nat) (d : O) (v : V), xs[k]? = some d → vs[k]? = some v → RpO W.C G H d v (Fa k)
  dj : ∀ (k l : Nat) (a : Addr), k ≠ l → Fa k a → ¬ Fa l a
  bd : ∀ (k : Nat) (a : Addr), Fa k a → k < xs.length ∧ a ≠ p
  fp : ∀ a, Fs i a ↔ a = p ∨ ∃ k, Fa k a
theorem Sim.lstAt {i : Nat} {xs : List O} (S : Sim W G env σ H Fs) (h : gt env i = some (.lst xs)) : ∃ p vs Fa, LstAt W G H σ Fs i xs p vs Fa := by
  obtain ⟨v, h1, r⟩ := S.rp i _ (gt_some h)
  cases r with
  | @lst _ p vs _ Fa g h l k dj bd hF => exact ⟨p, vs, Fa, h1, g, h, l, k, dj, bd, hF⟩
def setF (Fs : Nat → Fp) (i : Nat) (F : Fp) : Nat → Fp := fun j => if j = i then F else Fs j
theorem all_setF {i : Nat} {F1 : Fp} : ∀ a, All (setF Fs i F1) a → F1 a ∨ All Fs a := all_set
/-- the object at p, owned in slot i, is changed to o' -/
theorem upd_slot {i : Nat} {p : Addr} {o' : HO} {d' : O} {F1 Fnew : Fp} (S : Sim W G env σ H Fs) (hσ : σ[i]? = some (some (.ref p))) (hp : Fs i p) (r' : RpO W.C G (upd H p o') d' (.ref p) F1)
    (hs : ∀ a, F1 a → Fs i a ∨ Fnew a) (hn : ∀ j a, Fnew a → ¬ Fs j a) :
    Step W G H (fun a => All Fs a ∨ Fnew a) G (upd H p o') (fun a => All (setF Fs i F1) a ∨ ((All Fs a ∨ Fnew a) ∧ a ≠ p)) ∧ Sim W G (env.set i (some d')) σ (upd H p o') (setF Fs i F1) := by
  have g := (S.ow i p hp).1
  obtain ⟨o, hH, nt⟩ := (S.ow i p hp).2
  have st : Step W G H (fun a => All Fs a ∨ Fnew a) G (upd H p o') (fun a => All (setF Fs i F1) a ∨ ((All Fs a ∨ Fnew a) ∧ a ≠ p)) := by
    refine ⟨fun _ _ h => h, fun a u ha nf _ => ?_, fun a ha => ?_, fun a ha => .inl ha, fun a ha => .inl ?_, fun a u ha => ?_, fun P hP => ?_⟩
    · rw [upd_ne fun (e : a = p) => nf (.inl ⟨i, by rw [e]; exact hp⟩)]; exact ha
    · by_cases e : a = p
      · subst e; rw [upd_same]; simp
      · rw [upd_ne e]; exact ha
    · rcases ha with ha | ha
      · rcases all_setF a ha with h | h
        · rcases hs a h with h | h
          · exact .inl ⟨i, h⟩
          · exact .inr h
        · exact .inl h
      · exact ha.1
    · rw [upd_ne fun (e : a = p) => by rw [e, g] at ha; cases ha]; exact S.le a u ha
    · obtain ⟨ps, h1, h2⟩ := S.tb P hP
      exact ⟨ps, by rw [upd_ne fun (e : P = p) => by rw [e, hH] at h1; cases h1; exact nt ps rfl]; exact h1, h2⟩
  refine ⟨st, st.le, ?_, fun j d e => ?_, fun j k a hjk h1 h2 => ?_, fun j a h => ?_, st.b⟩
  · rw [List.length_set]; exact S.len
  · by_cases hj : i = j
    · subst hj
      have hl : i < env.length := by
        have h1 := (List.getElem?_eq_some_iff.mp e).1
        rw [List.length_set] at h1
        exact h1
      rw [List.getElem?_set_self hl] at e
      cases e
      refine ⟨_, hσ, ?_⟩
      unfold setF
      rw [if_pos rfl]
      exact r'
    · rw [List.getElem?_set_ne hj] at e
      obtain ⟨w, h1, h2⟩ := S.rp j d e
      refine ⟨w, h1, ?_⟩
      unfold setF
      rw [if_neg (Ne.symm hj)]
      exact h2.keep (fun _ _ h => h) fun a ha => ⟨(h2.own a ha).1, upd_ne fun (e : a = p) => S.dj j i a (Ne.symm hj) ha (by rw [e]; exact hp)⟩
  · unfold setF at h1 h2
    by_cases hj : j = i
    · by_cases hk : k = i
      · exact hjk (hj.trans hk.symm)
      · rw [if_pos hj] at h1; rw [if_neg hk] at h2
        rcases hs a h1 with h | h
        · exact S.dj i k a (fun e => hk e.symm) h h2
        · exact hn k a h h2
    · rw [if_neg hj] at h1
      by_cases hk : k = i
      · rw [if_pos hk] at h2
        rcases hs a h2 with h | h
        · exact S.dj i j a (fun e => hj e.symm) h h1
        · exact hn j a h h1
      · rw [if_neg hk] at h2
        exact S.dj j k a hjk h1 h2
  · unfold setF at h
    by_cases hj : j = i
    · rw [if_pos hj] at h; exact r'.own a h
    · rw [if_neg hj] at h
      obtain ⟨h1, o2, h2, h3⟩ := S.ow j a h
      exact ⟨h1, o2, by rw [upd_ne fun (e : a = p) => S.dj j i a hj h (by rw [e]; exact hp)]; exact h2, h3⟩
/-- .. of a list -/
theorem LstAt.upd {i : Nat} {xs xs' : List O} {p : Addr} {vs vs' : List V} {Fa Fa' : Nat → Fp} {Fnew : Fp} (S : Sim W G env σ H Fs) (L : LstAt W G H σ Fs i xs p vs Fa) (hl : xs'.length = vs'.length)
    (hr : ∀ (k : Nat) (d : O) (v : V), xs'[k]? = some d → vs'[k]? = some v → RpO W.C G H d v (Fa' k)) (hd : ∀ (k l : Nat) (a : Addr), k ≠ l → Fa' k a → ¬ Fa' l a) (hb : ∀ k a, Fa' k a → k < xs'.length ∧ ((∃ l, Fa l a) ∨ Fnew a)) (hn : ∀ j a, Fnew a → ¬ Fs j a) :
    Step W G H (fun a => All Fs a ∨ Fnew a) G (L2.upd H p (.lst vs')) (fun a => All (setF Fs i fun a => a = p ∨ ∃ k, Fa' k a) a ∨ ((All Fs a ∨ Fnew a) ∧ a ≠ p)) ∧ Sim W G (env.set i (some (.lst xs'))) σ (L2.upd H p (.lst vs')) (setF Fs i fun a => a = p ∨ ∃ k, Fa' k a) := by
  have hp : Fs i p := (L.fp p).mpr (.inl rfl)
  have np : ∀ k a, Fa' k a → a ≠ p := fun k a h e => by
    rcases (hb k a h).2 with ⟨l, h2⟩ | h2
    · exact (L.bd l a h2).2 e
    · exact hn i a h2 (by rw [e]; exact hp)
  refine upd_slot S L.sl hp (.lst Fa' L.g upd_same hl (fun k d v h1 h2 => (hr k d v h1 h2).keep (fun _ _ h => h) fun a ha => ⟨((hr k d v h1 h2).own a ha).1, upd_ne (np k a ha)⟩) hd (fun k a h => ⟨(hb k a h).1, np k a h⟩) fun a => Iff.rfl) (fun a h => ?_) hn
  rcases h with h | ⟨k, h⟩
  · exact .inl ((L.fp a).mpr (.inl h))
  · rcases (hb k a h).2 with h2 | h2
    · exact .inl ((L.fp a).mpr (.inr h2))
    · exact .inr h2
/-! ### append -/
def lstG (env : En) (i : Nat) : Option (List O) := match gt env i with
  | some (.lst xs) => some xs
  | _ => none
theorem lstG_some {i : Nat} {xs : List O} (h : lstG env i = some xs) : gt env i = some (.lst xs) := by
  unfold lstG at h
  split at h
  · rename_i e; cases h; exact e
  · cases h
def eApp (i : Nat) (f : En → RE) : En → RE := fun env => match lstG env i with
  | none => .stk
  | some _ => (f env).bind fun p => match lstG p.2 i with
    | some xs => if szOk (xs.length + 1) then .ok (.sh .non, p.2.set i (some (.lst (xs ++ [p.1])))) else .stk
    | none => .stk
theorem SE_append (i : Nat) {f : En → RE} {x : Str} {e : Expr} {p apos cpos : Pos} (ha : SE X W Wx f e) (hN : X.N[i]? = some x := by rfl) (hv : Vis X.env.scope x := by first | exact Or.inl rfl | exact Or.inr (Or.inl rfl) | exact Or.inr (Or.inr rfl)) (hd : (x == ("__debug__" : Str)) = false := by decide)
    (hcd : (x == ("__classdict__" : Str)) = false := by decide) (hbase : attributeBase (.Name x p) "append" X.env (eval (.Name x p) X.env) = eval (.Name x p) X.env := by rfl)
    (hfew : ((backTo cpos (starEach [e] X.env)).all (fun x => !x.1) && (backToKw cpos (keywordEach [] X.env)).all (fun x => x.1.isSome)
      && decide (([e] : List Expr).length + ([] : List Keyword).length + (if ([] : List Keyword).isEmpty then 0 else 1) < 30)) = true := by rfl)
    (hline : (apos.endLine == cpos.line) = true := by rfl) (hs : starEach [e] X.env = (false, eval e X.env) :: starEach [] X.env := by rfl) (hplain : (backTo cpos (starEach [] X.env)).any (·.1) = false := by rfl) :
    SE X W Wx (eApp i f) (.Call (.Attribute (.Name x p) "append" apos) [e] [] cpos) := fun env =>
  (pe_bm PySem.F.plainAttrs_list PySem.F.slot_list_append PySem.F.type_list_append mt_append (pe_var hN hv hd hcd) (pa_cons (ha env) pa_nil hs) hbase hfew hline hs hplain).imp fun σ H Q => by
    rintro ⟨G, Fs, S, q⟩
    unfold eApp at q
    cases e0 : lstG env i with
    | none => rw [e0] at q; exact q.elim
    | some xs0 =>
      rw [e0] at q
      obtain ⟨p0, vs0, Fa0, L0⟩ := S.lstAt (lstG_some e0)
      refine ⟨.ref p0, L0.sl, .inl ⟨rfl, _, SqL.of L0.h⟩, G, Fs, S, ?_⟩
      dsimp only at q
      cases e1 : f env with
      | stk => rw [e1] at q; exact q
      | exc c u => rw [e1] at q; exact q
      | ok pp =>
        obtain ⟨y, e2⟩ := pp
        rw [e1, bind_ok] at q
        intro v G1 H1 F1 Fs1 s1 r1 S1 d1
        dsimp only at q
        cases e3 : lstG e2 i with
        | none => rw [e3] at q; exact q.elim
        | some xs =>
          rw [e3] at q
          dsimp only at q
          cases hz : szOk (xs.length + 1) with
          | false => rw [hz, if_neg (by decide)] at q; exact q.elim
          | true =>
            rw [hz, if_pos rfl] at q
            have hz : xs.length + 1 ≤ sizeLine := szOk_sz hz
            obtain ⟨p1, vs, Fa, L⟩ := S1.lstAt (lstG_some e3)
            have ep : p1 = p0 := by
              have := L.sl
              rw [L0.sl] at this
              cases this; rfl
            subst ep
            have dF : ∀ k a, F1 a → ¬ Fa k a := fun k a h1 h2 => d1 i a h1 ((L.fp a).mpr (.inr ⟨k, h2⟩))
            refine ⟨p1, vs, v, rfl, rfl, L.h, by rw [← L.len]; omega, ?_⟩
            have a1 : ∀ (k : Nat) (d : O) (w : V), (xs ++ [y])[k]? = some d → (vs ++ [v])[k]? = some w → RpO W.C G1 H1 d w (if k = xs.length then F1 else Fa k) := fun k d w h1 h2 => by
              by_cases hk : k = xs.length
              · subst hk
                rw [List.getElem?_concat_length] at h1
                rw [L.len, List.getElem?_concat_length] at h2
                cases h1; cases h2
                rw [if_pos rfl]; exact r1
              · rw [if_neg hk]
                have hlt : k < xs.length := by
                  have := (List.getElem?_eq_some_iff.mp h1).1
                  rw [List.length_append, List.length_singleton] at this
                  omega
                rw [List.getElem?_append_left hlt] at h1
                rw [List.getElem?_append_left (by rw [← L.len]; exact hlt)] at h2
                exact L.rp k d w h1 h2
            have a2 : ∀ (k l : Nat) (a : Addr), k ≠ l → (if k = xs.length then F1 else Fa k) a → ¬ (if l = xs.length then F1 else Fa l) a := fun k l a hkl h1 h2 => by
              by_cases hk : k = xs.length
              · by_cases hl : l = xs.length
                · exact hkl (hk.trans hl.symm)
                · rw [if_pos hk] at h1; rw [if_neg hl] at h2
                  exact dF l a h1 h2
              · by_cases hl : l = xs.length
                · rw [if_neg hk] at h1; rw [if_pos hl] at h2
                  exact dF k a h2 h1
                · rw [if_neg hk] at h1; rw [if_neg hl] at h2
                  exact L.dj k l a hkl h1 h2
            have a3 : ∀ (k : Nat) (a : Addr), (if k = xs.length then F1 else Fa k) a → k < (xs ++ [y]).length ∧ ((∃ l, Fa l a) ∨ F1 a) := fun k a h => by
              rw [List.length_append, List.length_singleton]
              by_cases hk : k = xs.length
              · rw [if_pos hk] at h
                exact ⟨by omega, .inr h⟩
              · rw [if_neg hk] at h
                exact ⟨by have := (L.bd k a h).1; omega, .inl ⟨k, h⟩⟩
            obtain ⟨s2, S2⟩ := L.upd (xs' := xs ++ [y]) (vs' := vs ++ [v]) (Fa' := fun k => if k = xs.length then F1 else Fa k) (Fnew := F1) S1 (by simp [L.len]) a1 a2 a3 (fun j a h => d1 j a h)
            refine q .non G1 _ Emp _ ((s1.wide (F1' := fun a => All Fs1 a ∨ F1 a) (fun _ h => h) fun a h => .inr (h.elim .inr .inl)).trans (s2.wide (fun _ h => h) fun a h => ?_)) (.sh' .non) S2 fun _ _ h => h.elim
            rcases h with h | h
            · exact h.elim
            · exact .inr (.inl h)
/-! ### pop(k) -/
def ePop (i : Nat) (f : En → RP) : En → RE := fun env => match lstG env i with
  | none => .stk
  | some xs => match f env with
    | .ok y => match (asI y).bind fun j => if okI j then seqIndex? j xs.length else none with
      | some k => match xs[k]? with
        | some d => .ok (d, env.set i (some (.lst (xs.eraseIdx k))))
        | none => .stk
      | none => .stk
    | .exc c _ => .exc c env
    | .stk => .stk
def ePop0 (i : Nat) : En → RE := fun env => match lstG env i with
  | none => .stk
  | some xs => match xs[xs.length - 1]? with
    | some d => .ok (d, env.set i (some (.lst xs.dropLast)))
    | none => .stk
theorem pop_core {i k : Nat} {xs : List O} {p : Addr} {vs : List V} {Fa : Nat → Fp} {d : O} {v : V} {Q : VK} (S : Sim W G env σ H Fs) (L : LstAt W G H σ Fs i xs p vs Fa) (h1 : xs[k]? = some d) (h2 : vs[k]? = some v)
    (q : ∀ v G' H' F1 Fs', Step W G H (All Fs) G' H' (fun a => F1 a ∨ All Fs' a) → RpO W.C G' H' d v F1 → Sim W G' (env.set i (some (.lst (xs.eraseIdx k)))) σ H' Fs' → (∀ i a, F1 a → ¬ Fs' i a) → Q v H') : Q v (L2.upd H p (.lst (vs.eraseIdx k))) := by
  have hk : k < xs.length := (List.getElem?_eq_some_iff.mp h1).1
  have hle : (xs.eraseIdx k).length = xs.length - 1 := List.length_eraseIdx_of_lt hk
  have a1 : ∀ (j : Nat) (d : O) (w : V), (xs.eraseIdx k)[j]? = some d → (vs.eraseIdx k)[j]? = some w → RpO W.C G H d w (if j < k then Fa j else Fa (j + 1)) := fun j d w q1 q2 => by
    rw [List.getElem?_eraseIdx] at q1 q2
    by_cases hj : j < k
    · rw [if_pos hj] at q1 q2 ⊢; exact L.rp j d w q1 q2
    · rw [if_neg hj] at q1 q2 ⊢; exact L.rp (j + 1) d w q1 q2
  have a2 : ∀ (j l : Nat) (a : Addr), j ≠ l → (if j < k then Fa j else Fa (j + 1)) a → ¬ (if l < k then Fa l else Fa (l + 1)) a := fun j l a hkl q1 q2 => by
    by_cases hj : j < k
    · by_cases hl : l < k
      · rw [if_pos hj] at q1; rw [if_pos hl] at q2; exact L.dj j l a hkl q1 q2
      · rw [if_pos hj] at q1; rw [if_neg hl] at q2; exact L.dj j (l + 1) a (by omega) q1 q2
    · by_cases hl : l < k
      · rw [if_neg hj] at q1; rw [if_pos hl] at q2; exact L.dj (j + 1) l a (by omega) q1 q2
      · rw [if_neg hj] at q1; rw [if_neg hl] at q2; exact L.dj (j + 1) (l + 1) a (by omega) q1 q2
  have a3 : ∀ (j : Nat) (a : Addr), (if j < k then Fa j else Fa (j + 1)) a → j < (xs.eraseIdx k).length ∧ ((∃ l, Fa l a) ∨ Emp a) := fun j a h => by
    rw [hle]
    by_cases hj : j < k
    · rw [if_pos hj] at h
      exact ⟨by omega, .inl ⟨j, h⟩⟩
    · rw [if_neg hj] at h
      exact ⟨by have := (L.bd _ a h).1; omega, .inl ⟨j + 1, h⟩⟩
  obtain ⟨s2, S2⟩ := L.upd (xs' := xs.eraseIdx k) (vs' := vs.eraseIdx k) (Fa' := fun j => if j < k then Fa j else Fa (j + 1)) (Fnew := Emp) S (by rw [hle, List.length_eraseIdx_of_lt (by rw [← L.len]; exact hk), L.len]) a1 a2 a3 (fun _ _ h => h.elim)
  have r := L.rp k d v h1 h2
  have nf : ∀ a, Fa k a → a ≠ p := fun a h => (L.bd k a h).2
  refine q v G _ (Fa k) _ (s2.wide (fun _ h => h.elim id False.elim) fun a h => ?_) (r.keep (fun _ _ h => h) fun a ha => ⟨(r.own a ha).1, upd_ne (nf a ha)⟩) S2 fun j a q1 q2 => ?_
  · rcases h with h | h
    · exact .inr (.inr ⟨.inl ⟨i, (L.fp a).mpr (.inr ⟨k, h⟩)⟩, nf a h⟩)
    · exact .inr (.inl h)
  · unfold setF at q2
    by_cases hj : j = i
    · rw [if_pos hj] at q2
      rcases q2 with q2 | ⟨l, q2⟩
      · exact nf a q1 q2
      · by_cases hl : l < k
        · rw [if_pos hl] at q2
          exact L.dj k l a (by omega) q1 q2
        · rw [if_neg hl] at q2
          exact L.dj k (l + 1) a (by omega) q1 q2
    · rw [if_neg hj] at q2
      exact S.dj i j a (fun e => hj e.symm) ((L.fp a).mpr (.inr ⟨k, q1⟩)) q2
theorem SE_pop (i : Nat) {f : En → RP} {x : Str} {e : Expr} {p apos cpos : Pos} (ha : SP X W Wx f e) (hN : X.N[i]? = some x := by rfl) (hv : Vis X.env.scope x := by first | exact Or.inl rfl | exact Or.inr (Or.inl rfl) | exact Or.inr (Or.inr rfl)) (hd : (x == ("__debug__" : Str)) = false := by decide)
    (hcd : (x == ("__classdict__" : Str)) = false := by decide) (hbase : attributeBase (.Name x p) "pop" X.env (eval (.Name x p) X.env) = eval (.Name x p) X.env := by rfl)
    (hfew : ((backTo cpos (starEach [e] X.env)).all (fun x => !x.1) && (backToKw cpos (keywordEach [] X.env)).all (fun x => x.1.isSome)
      && decide (([e] : List Expr).length + ([] : List Keyword).length + (if ([] : List Keyword).isEmpty then 0 else 1) < 30)) = true := by rfl)
    (hline : (apos.endLine == cpos.line) = true := by rfl) (hs : starEach [e] X.env = (false, eval e X.env) :: starEach [] X.env := by rfl) (hplain : (backTo cpos (starEach [] X.env)).any (·.1) = false := by rfl) :
    SE X W Wx (ePop i f) (.Call (.Attribute (.Name x p) "pop" apos) [e] [] cpos) := fun env =>
  (pe_bm PySem.F.plainAttrs_list PySem.F.slot_list_pop PySem.F.type_list_pop mt_popAt (pe_var hN hv hd hcd) (pa_cons (ha env) pa_nil hs) hbase hfew hline hs hplain).imp fun σ H Q => by
    rintro ⟨G, Fs, S, q⟩
    unfold ePop at q
    cases e0 : lstG env i with
    | none => rw [e0] at q; exact q.elim
    | some xs =>
      rw [e0] at q
      obtain ⟨p0, vs0, Fa0, L0⟩ := S.lstAt (lstG_some e0)
      refine ⟨.ref p0, L0.sl, .inl ⟨rfl, _, SqL.of L0.h⟩, G, Fs, S, ?_⟩
      dsimp only at q
      cases e1 : f env with
      | stk => rw [e1] at q; exact q
      | exc c u => rw [e1] at q; exact fun G' H' s => q G' H' Fs s.all (S.step0 s)
      | ok y =>
        rw [e1] at q
        intro v G1 H1 F1 s1 r1
        dsimp only at q
        cases e2 : asI y with
        | none => rw [e2] at q; exact q.elim
        | some j =>
          rw [e2, Option.bind_some] at q
          rw [asI_some e2] at r1
          cases hk : okI j with
          | false => rw [hk, if_neg (by decide)] at q; exact q.elim
          | true =>
            rw [hk, if_pos rfl] at q
            obtain ⟨h1, h2⟩ := okI_ok hk
            cases e3 : seqIndex? j xs.length with
            | none => rw [e3] at q; exact q.elim
            | some k =>
              rw [e3] at q
              dsimp only at q
              cases e4 : xs[k]? with
              | none => rw [e4] at q; exact q.elim
              | some d =>
                rw [e4] at q
                have S1 := S.step0 s1
                obtain ⟨p1, vs, Fa, L⟩ := S1.lstAt (lstG_some e0)
                have ep : p1 = p0 := by
                  have := L.sl
                  rw [L0.sl] at this
                  cases this; rfl
                subst ep
                have hkv : k < vs.length := by rw [← L.len]; exact (List.getElem?_eq_some_iff.mp e4).1
                refine ⟨p1, vs, j, k, vs[k], rfl, by rw [rp_int r1], L.h, by omega, by omega, by rw [← L.len]; exact e3, List.getElem?_eq_getElem hkv, ?_⟩
                exact pop_core S1 L e4 (List.getElem?_eq_getElem hkv) fun v G' H' F1 Fs' s r S' d => q v G' H' F1 Fs' (s1.all.trans s) r S' d
theorem SE_pop0 (i : Nat) {x : Str} {p apos cpos : Pos} (hN : X.N[i]? = some x := by rfl) (hv : Vis X.env.scope x := by first | exact Or.inl rfl | exact Or.inr (Or.inl rfl) | exact Or.inr (Or.inr rfl)) (hd : (x == ("__debug__" : Str)) = false := by decide)
    (hcd : (x == ("__classdict__" : Str)) = false := by decide) (hbase : attributeBase (.Name x p) "pop" X.env (eval (.Name x p) X.env) = eval (.Name x p) X.env := by rfl) (hline : (apos.endLine == cpos.line) = true := by rfl) :
    SE X W Wx (ePop0 i) (.Call (.Attribute (.Name x p) "pop" apos) [] [] cpos) := fun env =>
  (pe_bm0 PySem.F.plainAttrs_list PySem.F.slot_list_pop PySem.F.type_list_pop mt_pop (pe_var hN hv hd hcd) hbase hline).imp fun σ H Q => by
    rintro ⟨G, Fs, S, q⟩
    unfold ePop0 at q
    cases e0 : lstG env i with
    | none => rw [e0] at q; exact q.elim
    | some xs =>
      rw [e0] at q
      dsimp only at q
      obtain ⟨p0, vs, Fa, L⟩ := S.lstAt (lstG_some e0)
      refine ⟨.ref p0, L.sl, .inl ⟨rfl, _, SqL.of L.h⟩, ?_⟩
      cases e4 : xs[xs.length - 1]? with
      | none => rw [e4] at q; exact q.elim
      | some d =>
        rw [e4] at q
        have hk := (List.getElem?_eq_some_iff.mp e4).1
        have hkv : xs.length - 1 < vs.length := by rw [← L.len]; exact hk
        refine ⟨p0, vs, vs[xs.length - 1], rfl, rfl, L.h, by rw [← L.len]; exact List.getElem?_eq_getElem hkv, ?_⟩
        have e1 : vs.dropLast = vs.eraseIdx (xs.length - 1) := by rw [L.len, List.eraseIdx_length_sub_one]
        have e2 : xs.dropLast = xs.eraseIdx (xs.length - 1) := by rw [List.eraseIdx_length_sub_one]
        rw [e2] at q
        rw [e1]
        exact pop_core S L e4 (List.getElem?_eq_getElem hkv) q
end
end
end FD


set_option Elab.async false
set_option linter.all false
set_option maxRecDepth 100000
/-! F14: stores into lists, instances; instances made; two names at once; remove, index, get. -/
namespace FD
noncomputable section
open PySem PySem.Spec L2
section
variable {X : Cx} {W : Wd} {Wx : WX} {pr : List Nat} {G G' H H' : Hp} {env env' : En} {σ σ' : St} {Fs Fs' : Nat → Fp} {F F' : Fp}
/-! ### x[k] = v -/
def sSetIx (i : Nat) (f : En → RE) (g : En → RP) : En → RS := fun env => match f env with
  | .ok (d, e) => match lstG e i with
    | some xs => match g e with
      | .ok y => match (asI y).bind fun j => ixN xs.length j with
        | some k => .nx (e.set i (some (.lst (xs.set k d))))
        | none => .stk
      | .exc c _ => .exc c e
      | .stk => .stk
    | none => .stk
  | .exc c e => .exc c e
  | .stk => .stk
theorem SS_setIx (i : Nat) {f : En → RE} {g : En → RP} {x : Str} {e ix : Expr} {p tpos pos : Pos} (hf : SE X W Wx f e) (hg : SP X W Wx g ix) (hN : X.N[i]? = some x := by rfl) (hv : Vis X.env.scope x := by first | exact Or.inl rfl | exact Or.inr (Or.inl rfl) | exact Or.inr (Or.inr rfl)) (hd : (x == ("__debug__" : Str)) = false := by decide)
    (hcd : (x == ("__classdict__" : Str)) = false := by decide) (hs : swapsWithSole [.Subscript (.Name x p) ix tpos] e pos.line X.env = pure false := by rfl) (hw : swappedStores [.Subscript (.Name x p) ix tpos] e X.env = pure none := by rfl)
    (h1 : (assignEach [.Subscript (.Name x p) ix tpos] X.env).map (·.2) = [assign (.Subscript (.Name x p) ix tpos) X.env] := by rfl)
    (ha : ∀ v, assign (.Subscript (.Name x p) ix tpos) X.env v = (do
      let ov ← holding [v] (eval (.Name x p) X.env)
      let iv ← holding [v, ov] (eval ix X.env)
      standAt tpos
      holding [v, ov, iv] (setItem ov iv v)
      release [v, ov, iv] []) := by intro _; rfl) : SS X W Wx pr (sSetIx i f g) (.Assign [.Subscript (.Name x p) ix tpos] e pos) := fun env =>
  (ps_asg (hf env) (pg_sub (pe_var hN hv hd hcd) (PE_any hg) set_list ha) hs hw h1).imp fun D σ H => by
    rintro ⟨G, Fs, S, q⟩
    refine ⟨G, Fs, S, ?_⟩
    unfold sSetIx at q
    cases e1 : f env with
    | stk => rw [e1] at q; exact q
    | exc c u => rw [e1] at q; exact fun G' H' Fs' s S' => q σ G' H' Fs' s S' (Pr.refl _ _)
    | ok pp =>
      obtain ⟨y, e2⟩ := pp
      rw [e1] at q
      intro v G1 H1 F1 Fs1 s1 r1 S1 d1
      dsimp only at q
      cases e3 : lstG e2 i with
      | none => rw [e3] at q; exact q.elim
      | some xs =>
        rw [e3] at q
        dsimp only at q
        obtain ⟨p0, vs0, Fa0, L0⟩ := S1.lstAt (lstG_some e3)
        refine ⟨.ref p0, L0.sl, e2, G1, Fs1, S1, ?_⟩
        cases e4 : g e2 with
        | stk => rw [e4] at q; exact q
        | exc c u => rw [e4] at q; exact fun G' H' s => q σ G' H' Fs1 ((s1.wide (F1' := All Fs1) (fun _ h => h) fun a h => .inr (.inr h)).trans s.all) (S1.step0 s) (Pr.refl _ _)
        | ok z =>
          rw [e4] at q
          intro u G2 H2 F2 s2 r2
          dsimp only at q
          cases e5 : asI z with
          | none => rw [e5] at q; exact q.elim
          | some j =>
            rw [e5, Option.bind_some] at q
            rw [asI_some e5] at r2
            cases e6 : ixN xs.length j with
            | none => rw [e6] at q; exact q.elim
            | some k =>
              rw [e6] at q
              have hk : k < xs.length := (ixN_seq e6).2.1
              have S2 := S1.step0 s2
              obtain ⟨p1, vs, Fa, L⟩ := S2.lstAt (lstG_some e3)
              have ep : p1 = p0 := by
                have := L.sl
                rw [L0.sl] at this
                cases this; rfl
              subst ep
              have r1' := r1.step0 s2
              refine ⟨p1, vs, j, k, rfl, rp_int r2, L.h, by rw [← L.len]; exact e6, ?_⟩
              have dF : ∀ k a, F1 a → ¬ Fa k a := fun k a h1 h2 => d1 i a h1 ((L.fp a).mpr (.inr ⟨k, h2⟩))
              have a1 : ∀ (l : Nat) (d : O) (w : V), (xs.set k y)[l]? = some d → (vs.set k v)[l]? = some w → RpO W.C G2 H2 d w (if l = k then F1 else Fa l) := fun l d w h1 h2 => by
                by_cases hl : l = k
                · subst hl
                  rw [List.getElem?_set_self hk] at h1
                  rw [List.getElem?_set_self (by rw [← L.len]; exact hk)] at h2
                  cases h1; cases h2
                  rw [if_pos rfl]; exact r1'
                · rw [List.getElem?_set_ne (Ne.symm hl)] at h1 h2
                  rw [if_neg hl]; exact L.rp l d w h1 h2
              have a2 : ∀ (l m : Nat) (a : Addr), l ≠ m → (if l = k then F1 else Fa l) a → ¬ (if m = k then F1 else Fa m) a := fun l m a hlm h1 h2 => by
                by_cases hl : l = k
                · by_cases hm : m = k
                  · exact hlm (hl.trans hm.symm)
                  · rw [if_pos hl] at h1; rw [if_neg hm] at h2; exact dF m a h1 h2
                · by_cases hm : m = k
                  · rw [if_neg hl] at h1; rw [if_pos hm] at h2; exact dF l a h2 h1
                  · rw [if_neg hl] at h1; rw [if_neg hm] at h2; exact L.dj l m a hlm h1 h2
              have a3 : ∀ (l : Nat) (a : Addr), (if l = k then F1 else Fa l) a → l < (xs.set k y).length ∧ ((∃ m, Fa m a) ∨ F1 a) := fun l a h => by
                rw [List.length_set]
                by_cases hl : l = k
                · rw [if_pos hl] at h; exact ⟨by omega, .inr h⟩
                · rw [if_neg hl] at h; exact ⟨(L.bd l a h).1, .inl ⟨l, h⟩⟩
              obtain ⟨s3, S3⟩ := L.upd (xs' := xs.set k y) (vs' := vs.set k v) (Fa' := fun l => if l = k then F1 else Fa l) (Fnew := F1) S2 (by simp [L.len]) a1 a2 a3 (fun j a h => d1 j a h)
              refine q σ G2 _ _ ((s1.wide (F1' := fun a => All Fs1 a ∨ F1 a) (fun _ h => h) fun a h => .inr (h.elim .inr .inl)).trans ((s2.wide (F1' := fun a => All Fs1 a ∨ F1 a) (fun _ h => h.elim) fun a h => .inl h).trans (s3.wide (fun _ h => h) fun a h => .inr (.inl h)))) S3 (Pr.refl _ _)
/-! ### x.remove(k), ints -/
def intsO (xs : List O) : Option (List Int) := (allSh xs).bind intsD
theorem intsO_some {xs : List O} {ns : List Int} (h : intsO xs = some ns) : xs = (ns.map D.int).map O.sh := by
  unfold intsO at h
  cases e : allSh xs with
  | none => rw [e] at h; cases h
  | some ds =>
    rw [e, Option.bind_some] at h
    rw [allSh_some e, intsD_some h]
@[simp] theorem intsO_map (ns : List Int) : intsO ((ns.map D.int).map O.sh) = some ns := by unfold intsO; rw [allSh_map, Option.bind_some, intsD_map]
theorem LstAt.shared {i : Nat} {p : Addr} {vs : List V} {Fa : Nat → Fp} {ds : List D} {vs' : List V} (S : Sim W G env σ H Fs) {xs : List O} (L : LstAt W G H σ Fs i xs p vs Fa) (hr : RpDs W G ds vs') :
    Step W G H (All Fs) G (L2.upd H p (.lst vs')) (All (setF Fs i fun a => a = p)) ∧ Sim W G (env.set i (some (.lst (ds.map .sh)))) σ (L2.upd H p (.lst vs')) (setF Fs i fun a => a = p) := by
  have r : RpO W.C G (L2.upd H p (.lst vs')) (.lst (ds.map .sh)) (.ref p) (fun a => a = p) := RpDs.own L.g upd_same hr
  obtain ⟨s, S'⟩ := upd_slot (Fnew := Emp) S L.sl ((L.fp p).mpr (.inl rfl)) r (fun a h => .inl ((L.fp a).mpr (.inl h))) (fun _ _ h => h.elim)
  exact ⟨s.wide (fun _ h => h.elim id False.elim) fun a h => .inr (.inl h), S'⟩
def eRem (i : Nat) (f : En → RP) : En → RE := fun env => match (lstG env i).bind intsO with
  | none => .stk
  | some ns => match f env with
    | .ok y => match asI y with
      | some k => if ns.contains k then .ok (.sh .non, env.set i (some (.lst ((ns.erase k).map fun j => .sh (.int j))))) else .stk
      | none => .stk
    | .exc c _ => .exc c env
    | .stk => .stk
theorem SE_remove (i : Nat) {f : En → RP} {x : Str} {e : Expr} {p apos cpos : Pos} (hc : X.calm = true) (tk : Takes X Wx) (ha : SP X W Wx f e) (hN : X.N[i]? = some x := by rfl) (hv : Vis X.env.scope x := by first | exact Or.inl rfl | exact Or.inr (Or.inl rfl) | exact Or.inr (Or.inr rfl)) (hd : (x == ("__debug__" : Str)) = false := by decide)
    (hcd : (x == ("__classdict__" : Str)) = false := by decide) (hbase : attributeBase (.Name x p) "remove" X.env (eval (.Name x p) X.env) = eval (.Name x p) X.env := by rfl)
    (hfew : ((backTo cpos (starEach [e] X.env)).all (fun x => !x.1) && (backToKw cpos (keywordEach [] X.env)).all (fun x => x.1.isSome)
      && decide (([e] : List Expr).length + ([] : List Keyword).length + (if ([] : List Keyword).isEmpty then 0 else 1) < 30)) = true := by rfl)
    (hline : (apos.endLine == cpos.line) = true := by rfl) (hs : starEach [e] X.env = (false, eval e X.env) :: starEach [] X.env := by rfl) (hplain : (backTo cpos (starEach [] X.env)).any (·.1) = false := by rfl) :
    SE X W Wx (eRem i f) (.Call (.Attribute (.Name x p) "remove" apos) [e] [] cpos) := fun env =>
  (pe_remX hc tk (pe_var hN hv hd hcd) (ha env) hbase hfew hline hs hplain).imp fun σ H Q => by
    rintro ⟨G, Fs, S, q⟩
    unfold eRem at q
    cases e0 : lstG env i with
    | none => rw [e0] at q; exact q.elim
    | some xs =>
      rw [e0, Option.bind_some] at q
      cases e2 : intsO xs with
      | none => rw [e2] at q; exact q.elim
      | some ns =>
        rw [e2] at q
        dsimp only at q
        obtain ⟨p0, vs0, Fa0, L0⟩ := S.lstAt (lstG_some e0)
        refine ⟨.ref p0, L0.sl, .inl ⟨rfl, _, SqL.of L0.h⟩, G, Fs, S, ?_⟩
        cases e1 : f env with
        | stk => rw [e1] at q; exact q
        | exc c u => rw [e1] at q; exact fun G' H' s => q G' H' Fs s.all (S.step0 s)
        | ok y =>
          rw [e1] at q
          dsimp only at q
          intro v G1 H1 F1 s1 r1
          cases e3 : asI y with
          | none => rw [e3] at q; exact q.elim
          | some k =>
            rw [e3] at q
            dsimp only at q
            by_cases hk : ns.contains k = true
            · rw [if_pos hk] at q
              have S1 := S.step0 s1
              obtain ⟨p1, vs, Fa, L⟩ := S1.lstAt (lstG_some e0)
              have ep : p1 = p0 := by
                have := L.sl
                rw [L0.sl] at this
                cases this; rfl
              subst ep
              rw [asI_some e3] at r1
              have ex := intsO_some e2
              have hv : RpDs W G1 (ns.map D.int) vs := RpDs.of (H := H1) (by
                rw [← ex]
                exact paired_of L.len fun i d v h1 h2 => ⟨Fa i, L.rp i d v h1 h2⟩)
              refine ⟨p1, ns, k, rfl, rp_int r1, by rw [L.h, ints_vals hv], fun _ => ?_, fun hn => absurd (by simpa using hk) hn⟩
              obtain ⟨s2, S2⟩ := L.shared S1 (ints_rp (W := W) (G := G1) (ns.erase k))
              refine q .non G1 _ Emp _ ((s1.wide (F1 := All Fs) (F1' := All Fs) (fun _ h => h.elim) fun a h => .inl h).trans (s2.wide (fun _ h => h) fun a h => h.elim False.elim .inr)) (.sh' .non) (by rw [shI]; exact S2) fun _ _ h => h.elim
            · rw [if_neg hk] at q; exact q.elim
/-! ### several names at once -/
def sPar (i j : Nat) (f : En → R En (List O × En)) : En → RS := fun env => match f env with
  | .ok ([x, y], e) => .nx ((e.set i (some x)).set j (some y))
  | .ok _ => .stk
  | .exc c e => .exc c e
  | .stk => .stk
theorem SS_par (i j : Nat) {ks : List (Option Nat)} {f : En → R En (List O × En)} {x y : Str} {a b : Expr} {px py pt pos : Pos} {kt k2 pt2} (hc : X.calm = true) (hN : X.N.Nodup) (ha : SN X W Wx ks f [a, b]) (hij : i ≠ j := by decide) (hpi : i ∉ pr := by decide) (hpj : j ∉ pr := by decide) (hi : X.N[i]? = some x := by rfl) (hj : X.N[j]? = some y := by rfl)
    (hx : X.env.scope.names.lookup x = some .local := by rfl) (hy : X.env.scope.names.lookup y = some .local := by rfl)
    (hw : swappedStores [.Tuple [.Name x px, .Name y py] kt pt] (.Tuple [a, b] k2 pt2) X.env = pure (some [x, y]) := by rfl)
    (hs : swapsWithSole [.Tuple [.Name x px, .Name y py] kt pt] (.Tuple [a, b] k2 pt2) pos.line X.env = pure false := by rfl) :
    SS X W Wx pr (sPar i j f) (.Assign [.Tuple [.Name x px, .Name y py] kt pt] (.Tuple [a, b] k2 pt2) pos) := fun env => (ps_par hc hN hi hj hij hx hy (ha env) hw hs).imp fun D σ H => by
  rintro ⟨G, Fs, S, q⟩
  refine ⟨G, Fs, S, ?_⟩
  unfold sPar at q
  cases e1 : f env with
  | stk => rw [e1] at q; exact q
  | exc c u => rw [e1] at q; exact fun G' H' Fs' s S' => q σ G' H' Fs' s S' (Pr.refl _ _)
  | ok pp =>
    obtain ⟨ds, e2⟩ := pp
    rw [e1] at q
    intro vs G1 H1 FA Fs1 s1 A1 S1 d1 _
    have hl := A1.len
    match ds, vs, hl with
    | [d1', d2'], [v1, v2], _ =>
      refine ⟨v1, v2, rfl, ?_⟩
      have S2 := S1.set (i := i) (A1.rp 0 _ _ rfl rfl) fun k a h => d1 0 k a h
      have S3 := S2.set (i := j) (A1.rp 1 _ _ rfl rfl) fun k a h h2 => by
        by_cases hk : k = i
        · simp only [hk, if_true] at h2; exact A1.dj 0 1 a (by decide) h2 h
        · simp only [hk, if_false] at h2; exact d1 1 k a h h2
      refine q _ G1 H1 _ (s1.wide (fun _ h => h) fun a h => ?_) S3 ((Pr.set hpi).trans (Pr.set hpj))
      rcases all_set a h with h | h
      · exact .inr (.inl ⟨1, h⟩)
      · rcases all_set a h with h | h
        · exact .inr (.inl ⟨0, h⟩)
        · exact .inr (.inr h)
    | [], _, _ => exact q.elim
    | [_], _, _ => exact q.elim
    | _ :: _ :: _ :: _, _, _ => exact q.elim
/-! ### d.get(k) -/
def isDct : O → Bool
  | .sh (.dK _) => true
  | .sh (.dT _) => true
  | .dK _ => true
  | .dT _ => true
  | _ => false
def bDGet (f g : En → RP) : En → RP := fun env => (f env).bind fun x => if isDct x then (g env).bind fun y => match dGet x y with
  | some (some z) => ofO (asSh z)
  | some none => .ok (.sh .non)
  | none => .stk
  else .stk
end
end
end FD


set_option Elab.async false
set_option linter.all false
set_option maxRecDepth 100000
/-! F15: get, index, tuples made, ranges as lists, instances made and stored into. -/
namespace FD
noncomputable section
open PySem PySem.Spec L2
section
variable {X : Cx} {W : Wd} {Wx : WX} {pr : List Nat} {G G' H H' : Hp} {env env' : En} {σ σ' : St} {Fs Fs' : Nat → Fp} {F F' : Fp}
/-! ### d.get(k) -/
theorem isDct_ok {x : O} {v : V} {F1 : Fp} {C : Wc} (le : Sub G H) (rx : RpO C G H x v F1) (h : isDct x = true) : ∃ a, v = .ref a ∧ IsD H a := by
  unfold isDct at h
  split at h
  · cases rp_sh rx with
    | dK h1 _ _ => exact ⟨_, rfl, .inl ⟨_, .inl (le _ _ h1)⟩⟩
  · cases rp_sh rx with
    | dT h1 _ _ => exact ⟨_, rfl, .inr ⟨_, .inl (le _ _ h1)⟩⟩
  · cases rx with
    | dK Fs g h1 _ _ _ _ _ => exact ⟨_, rfl, .inl ⟨_, .inl h1⟩⟩
  · cases rx with
    | dT Fs g h1 _ _ _ _ _ => exact ⟨_, rfl, .inr ⟨_, .inl h1⟩⟩
  · cases h
theorem m1_of {o e : Expr} {m : Str} {apos cpos : Pos} (hbase : attributeBase o m X.env (eval o X.env) = eval o X.env) (hfew : ((backTo cpos (starEach [e] X.env)).all (fun x => !x.1) && (backToKw cpos (keywordEach [] X.env)).all (fun x => x.1.isSome)
      && decide (([e] : List Expr).length + ([] : List Keyword).length + (if ([] : List Keyword).isEmpty then 0 else 1) < 30)) = true) (hline : (apos.endLine == cpos.line) = true) (ht : backTo cpos (starEach [e] X.env) = [(false, eval e X.env)]) : M1 X o m apos e cpos := ⟨hbase, hfew, hline, ht⟩
theorem SV_dget {f g : En → RP} {o e : Expr} {apos cpos : Pos} (hu : X.A.units + 1 < cLine) (ho : SP X W Wx f o) (he : SP X W Wx g e) (m : M1 X o "get" apos e cpos := by exact m1_of rfl rfl rfl rfl) : SV X W Wx (bDGet f g) (.Call (.Attribute o "get" apos) [e] [] cpos) := fun env =>
  (pe_dget1 hu (ho env) (he env) m).imp fun σ H Q => by
    rintro ⟨G, Fs, S, q⟩
    refine ⟨G, Fs, S, ?_⟩
    unfold bDGet at q
    cases e1 : f env with
    | stk => rw [e1] at q; exact q
    | exc c u => rw [e1] at q; exact q
    | ok x =>
      rw [e1, bind_ok] at q
      intro v G1 H1 F1 s1 r1
      cases hd : isDct x with
      | false => rw [hd, if_neg (by decide)] at q; exact q.elim
      | true =>
        rw [hd, if_pos rfl] at q
        obtain ⟨a, rfl, hd⟩ := isDct_ok s1.le r1 hd
        refine ⟨a, rfl, hd, G1, Fs, S.step0 s1, ?_⟩
        cases e2 : g env with
        | stk => rw [e2] at q; exact q
        | exc c u => rw [e2] at q; exact fun G' H' s => q G' H' (s1.trans s)
        | ok y =>
          rw [e2, bind_ok] at q
          intro u G2 H2 F2 s2 r2
          cases e3 : dGet x y with
          | none => rw [e3] at q; exact q.elim
          | some r =>
            rw [e3] at q
            obtain ⟨a', o', ea, hg, hr⟩ := dGet_some s2.le (r1.step0 s2) r2 e3
            cases ea
            refine ⟨o', hg, ?_⟩
            rcases hr with ⟨rfl, rfl⟩ | ⟨d, w, F, rfl, rfl, rr⟩
            · exact q .non G2 H2 Emp (s1.trans s2) (.sh' .non)
            · dsimp only at q
              cases d with
              | sh d => exact q w G2 H2 Emp (s1.trans s2) (.sh' (rp_sh rr))
              | _ => exact q.elim
end
end
end FD


set_option Elab.async false
set_option linter.all false
set_option maxRecDepth 100000
/-! F16: index; tuples whose methods may be called; ranges as lists; instances. -/
namespace FD
noncomputable section
open PySem PySem.Spec L2
section
variable {X : Cx} {W : Wd} {Wx : WX} {pr : List Nat} {G G' H H' : Hp} {env env' : En} {σ σ' : St} {Fs Fs' : Nat → Fp} {F F' : Fp}
/-! ### x.index(y) -/
def IdxP (K : PySem.W.Frag) (H2 : Hp) (vs : List V) (y : V) (Q : VK) : Prop := ∃ (d : PyData) (ds : List PyData) (j : Nat) (z : PyData), DpAll K H2 vs ds ∧ Dp K H2 y d ∧
    SeqAt.shaped (.list ds) = true ∧ SeqAt.shaped d = true ∧ ds[j]? = some z ∧ PyData.eqv z d = true ∧ (∀ (m : Nat) (z' : PyData), m < j → ds[m]? = some z' → PyData.eqv z' d = false) ∧ Q (.int (j : Nat)) H2
def tIdx (K : PySem.W.Frag) (ta te : TE) : TE := fun σ H Q => ta σ H fun x H1 => ∃ a, x = .ref a ∧ (((∃ xs, SqL K H1 a xs) ∧ te σ H1 fun y H2 => ∃ vs, SqL K H2 a vs ∧ IdxP K H2 vs y Q) ∨
  ((∃ o vs, H1 a = some (.frz o (.tup vs)) ∧ o.dict = none) ∧ te σ H1 fun y H2 => ∃ vs, SqT K H2 a vs ∧ IdxP K H2 vs y Q))
open PyProof.Rows hiding St in
theorem mt_tindexD (hu : X.A.units + 65 < cLine) {pins : List (Addr × Obj)} {s : Shared} {σ : St} {H : Hp} {a : Addr} {y : V} {u : Value} {Q : VK} {vs : List V} {d : PyData} {ds : List PyData} {j : Nat} {z : PyData} (I : Inv X pins σ H s) (ry : RelV y u) (hq : SqT X.K H a vs) (ha : DpAll X.K H vs ds) (hy : Dp X.K H y d)
    (sl : SeqAt.shaped (.list ds) = true) (sd : SeqAt.shaped d = true) (hz : ds[j]? = some z) (hzj : PyData.eqv z d = true) (hno : ∀ (m : Nat) (z' : PyData), m < j → ds[m]? = some z' → PyData.eqv z' d = false) (q : Q (.int (j : Nat)) H) :
    wpAny (model X.prog X.w) X.A (call (.builtin "tuple.index") [.ref a, u]) (EP X pins σ Q) X.xe s := by
  obtain ⟨bs, r1⟩ := Dp.reads I d y u hy ry
  have hxs : PyData.canLayAll0 ds = true := SeqAt.canLay_of_shaped sl
  have hroom : X.A.units + 1 + min (PyData.depthAll ds) d.depth < cLine := room_in_shaped sd hu
  obtain ⟨its, rv, pl, hlen⟩ := I.tuple hq
  obtain ⟨⟨cls, dd, data, sls⟩, ho, hc, n, hdt⟩ := pl
  simp only at hc hdt
  subst hc hdt
  obtain ⟨as, h4⟩ := Dp.readsAll I ds _ its ha rv
  have hn : its.length = ds.length := SeqAt.ReadsAll.length ds its as h4
  have hmap : its.map (SeqAt.readOf s.heap) = ds := SeqAt.readsAll_map ds its as hxs h4
  obtain ⟨hjd, _⟩ := List.getElem?_eq_some_iff.mp hz
  have hjl : j < its.length := by omega
  have hj : j < its.toArray.size := by simpa using hjl
  have at_ : ∀ (m : Nat) (hm : m < its.toArray.size) (z' : PyData), ds[m]? = some z' → SeqAt.readOf s.heap its.toArray[m] = z' := by
    intro m hm z' hz'
    have hml : m < its.length := by simpa using hm
    rw [← hmap, List.getElem?_map, List.getElem?_eq_getElem hml] at hz'
    have e1 : SeqAt.readOf s.heap its[m] = z' := Option.some.inj (show some (SeqAt.readOf s.heap its[m]) = some z' from hz')
    simpa using e1
  refine call_meets PySem.F.slot_tuple_index ⟨_, ho, rfl⟩ PySem.F.entry_tuple_index (PySem.F.args_tuple_index_2 _ _)
    (TI.tuple_indexAt a its.toArray n dd sls u (fun u => PyData.eqv (SeqAt.readOf s.heap u) d) j hj ?_ ?_) ⟨ho, SeqAt.items_eqAt (vs := its.toArray) (show ReadsAll s.heap its.toArray.toList ds as from h4) r1 hxs (SeqAt.canLay_of_shaped sd) hroom, ?_⟩
  · show PyData.eqv (SeqAt.readOf s.heap its.toArray[j]) d = true
    rw [at_ j hj z hz]
    exact hzj
  · intro m hm hmj
    have hmd : m < ds.length := by omega
    have hz' : ds[m]? = some ds[m] := List.getElem?_eq_getElem hmd
    show PyData.eqv (SeqAt.readOf s.heap its.toArray[m]) d = false
    rw [at_ m hm _ hz']
    exact hno m _ hmj hz'
  · exact ⟨.int (j : Nat), H, I.tok _, ⟨_, rfl⟩, q⟩
open PyProof.Rows hiding St in
theorem pe_idx {o e : Expr} {apos cpos : Pos} {to te : TE} (hu : X.A.units + 65 < cLine) (ho : PE X o to) (he : PE X e te) (hbase : attributeBase o "index" X.env (eval o X.env) = eval o X.env)
    (hfew : ((backTo cpos (starEach [e] X.env)).all (fun x => !x.1) && (backToKw cpos (keywordEach [] X.env)).all (fun x => x.1.isSome)
      && decide (([e] : List Expr).length + ([] : List Keyword).length + (if ([] : List Keyword).isEmpty then 0 else 1) < 30)) = true)
    (hline : (apos.endLine == cpos.line) = true) (hs : starEach [e] X.env = (false, eval e X.env) :: starEach [] X.env) (hplain : (backTo cpos (starEach [] X.env)).any (·.1) = false) : PE X (.Call (.Attribute o "index" apos) [e] [] cpos) (tIdx X.K to te) := by
  refine ⟨fun pins s σ H Q I h => ?_⟩
  refine wpAny_Call_method_late hbase hfew hline rfl (thn (ho.run pins s σ H _ I h) fun v s1 ⟨x, H1, I1, r1, a, ex, ty⟩ => ?_)
  subst ex
  cases r1
  have ha : PA X [e] (tCons te tNil) := pa_cons he pa_nil hs
  have tail : ∀ (id : String) (R : V → Hp → Prop), te σ H1 R → (∀ y u s2 H2, Inv X pins σ H2 s2 → RelV y u → R y H2 → wpAny (model X.prog X.w) X.A (call (.builtin id) [.ref a, u]) (EP X pins σ Q) X.xe s2) →
      wpAny (model X.prog X.w) X.A (callWith cpos (.builtin id) [.ref a] (backTo cpos (starEach [e] X.env)) []) (EP X pins σ Q) X.xe s1 := fun id R hR k => by
    have hA := ha.run cpos pins s1 σ H1 (fun vs H2 => ∃ y, vs = [y] ∧ R y H2) I1 (by
      show te σ H1 fun x H2 => ∃ y, [x] = [y] ∧ R y H2
      have e1 : (fun (x : V) (H2 : Hp) => ∃ y, [x] = [y] ∧ R y H2) = R := by
        funext x H2
        exact propext ⟨fun ⟨y, e, r⟩ => by cases e; exact r, fun r => ⟨x, rfl, r⟩⟩
      rw [e1]; exact hR)
    rw [hs] at hA ⊢
    refine Calls.callWith_builtin (by show (false || (backTo cpos (starEach [] X.env)).any (·.1)) = false; rw [hplain] <;> rfl) (Calls.evalArgs_plain ?_)
    refine thn hA fun us s2 ⟨vs, H2, I2, r2, y, ev, hy⟩ => ?_
    subst ev
    obtain ⟨u, eu, ru⟩ := vals1 r2
    subst eu
    exact k y u s2 H2 I2 ru hy
  rcases ty with ⟨⟨xs, hq⟩, q1⟩ | ⟨⟨ob, ws, hf, hd⟩, q1⟩
  · obtain ⟨its, _, pl, _⟩ := I1.list hq
    refine ⟨"list", "list.index", PySem.F.plainAttrs_list, PySem.F.slot_list_index, PySem.F.type_list_index, pl.isList.typeIs, fun b e => ?_, ?_⟩
    · cases e
      obtain ⟨o, n, e, c, hd, _⟩ := pl
      exact ⟨o, e, hd⟩
    · refine tail "list.index" _ q1 fun y u s2 H2 I2 ru ⟨vs, c1, d, ds, j, z, c3, c4, c5, c6, c7, c8, c9, c10⟩ => ?_
      exact mt_indexD hu pins s2 σ H2 (.ref a) [y] (.ref a) [u] Q I2 rfl (.cons ru .nil) ⟨a, y, d, ds, j, z, rfl, rfl, .lst c1 c3, c4, c5, c6, c7, c8, c9, c10⟩
  · have hk := I1.hok a _ hf
    refine ⟨"tuple", "tuple.index", PySem.F.plainAttrs_tuple, PySem.F.slot_tuple_index, PySem.F.type_tuple_index, ?_, fun b e => ?_, ?_⟩
    · obtain ⟨h1, h2⟩ := hk
      obtain ⟨_, its, _, o2, h3, h4, _⟩ := h2
      exact ⟨o2, h3, h4⟩
    · cases e
      exact ⟨ob, hk.1, hd⟩
    · refine tail "tuple.index" _ q1 fun y u s2 H2 I2 ru ⟨vs, c2, d, ds, j, z, c3, c4, c5, c6, c7, c8, c9, c10⟩ => ?_
      exact mt_tindexD hu I2 ru c2 c3 c4 c5 c6 c7 c8 c9 c10
def pyOkL (ds : List D) : Bool := plainDL ds && SeqAt.shaped (.list (toPyL ds))
def idxD (ds : List D) (d : D) : Option Nat := ds.findIdx? fun z => deq z d
def bIdx (f g : En → RP) : En → RP := fun env => (f env).bind fun x => match x with
  | .sh (.tup true ds) => (g env).bind fun y => match y with
    | .sh d => if pyOkL ds && pyOk d then ofO ((idxD ds d).map fun j => .sh (.int (j : Nat))) else .stk
    | _ => .stk
  | .sh (.lst ds) => (g env).bind fun y => match y with
    | .sh d => if pyOkL ds && pyOk d then ofO ((idxD ds d).map fun j => .sh (.int (j : Nat))) else .stk
    | _ => .stk
  | _ => .stk
theorem dpAll_ds {K : PySem.W.Frag} {ds : List D} {vs : List V} (le : Sub G H) (r : RpDs W G ds vs) (h : plainDL ds = true) : DpAll K H vs (toPyL ds) := by
  induction r with
  | nil => exact .nil
  | cons r1 r2 ih =>
    rw [plainDL, Bool.and_eq_true] at h
    exact .cons (r1.dp le h.1) (ih h.2)
theorem idx_fin {K : PySem.W.Frag} {ds : List D} {d : D} {vs : List V} {y : V} {j : Nat} (le : Sub G H) (r : RpDs W G ds vs) (ry : RpD W.C G d y) (hp : (pyOkL ds && pyOk d) = true) (hj : idxD ds d = some j) :
    ∃ (d' : PyData) (ds' : List PyData) (z : PyData), DpAll K H vs ds' ∧ Dp K H y d' ∧ SeqAt.shaped (.list ds') = true ∧ SeqAt.shaped d' = true ∧ ds'[j]? = some z ∧ PyData.eqv z d' = true ∧ (∀ (m : Nat) (z' : PyData), m < j → ds'[m]? = some z' → PyData.eqv z' d' = false) := by
  rw [Bool.and_eq_true] at hp
  obtain ⟨h1, h2⟩ := hp
  unfold pyOkL at h1
  unfold pyOk at h2
  rw [Bool.and_eq_true] at h1 h2
  unfold idxD at hj
  rw [List.findIdx?_eq_some_iff_getElem] at hj
  obtain ⟨hl, hd, hno⟩ := hj
  refine ⟨toPy d, toPyL ds, toPy ds[j], dpAll_ds le r h1.1, ry.dp le h2.1, h1.2, h2.2, ?_, hd, fun m z' hm hz => ?_⟩
  · rw [toPyL_map, List.getElem?_map, List.getElem?_eq_getElem hl]; rfl
  · rw [toPyL_map, List.getElem?_map, List.getElem?_eq_getElem (by omega : m < ds.length)] at hz
    cases hz
    have := hno m hm
    rw [Bool.not_eq_true] at this
    exact this
theorem SV_idx {f g : En → RP} {o e : Expr} {apos cpos : Pos} (hu : X.A.units + 65 < cLine) (ho : SP X W Wx f o) (he : SP X W Wx g e) (hbase : attributeBase o "index" X.env (eval o X.env) = eval o X.env := by rfl)
    (hfew : ((backTo cpos (starEach [e] X.env)).all (fun x => !x.1) && (backToKw cpos (keywordEach [] X.env)).all (fun x => x.1.isSome)
      && decide (([e] : List Expr).length + ([] : List Keyword).length + (if ([] : List Keyword).isEmpty then 0 else 1) < 30)) = true := by rfl)
    (hline : (apos.endLine == cpos.line) = true := by rfl) (hs : starEach [e] X.env = (false, eval e X.env) :: starEach [] X.env := by rfl) (hplain : (backTo cpos (starEach [] X.env)).any (·.1) = false := by rfl) : SV X W Wx (bIdx f g) (.Call (.Attribute o "index" apos) [e] [] cpos) := fun env =>
  (pe_idx hu (ho env) (he env) hbase hfew hline hs hplain).imp fun σ H Q => by
    rintro ⟨G, Fs, S, q⟩
    refine ⟨G, Fs, S, ?_⟩
    unfold bIdx at q
    cases e1 : f env with
    | stk => rw [e1] at q; exact q
    | exc c u => rw [e1] at q; exact q
    | ok x =>
      rw [e1, bind_ok] at q
      intro v G1 H1 F1 s1 r1
      cases x with
      | sh dx =>
        cases dx with
        | tup m ds =>
          cases m with
          | false => exact q.elim
          | true =>
            have r' := rp_sh r1
            cases r' with
            | @tup _ _ a vs h1 h2 h3 =>
              obtain ⟨o, h4, h5⟩ := h1
              refine ⟨a, rfl, .inr ⟨⟨o, vs, s1.le _ _ h4, h5⟩, G1, Fs, S.step0 s1, ?_⟩⟩
              dsimp only at q
              cases e2 : g env with
              | stk => rw [e2] at q; exact q
              | exc c u => rw [e2] at q; exact fun G' H' s => q G' H' (s1.trans s)
              | ok y =>
                rw [e2, bind_ok] at q
                intro u G2 H2 F2 s2 r2
                cases y with
                | sh d =>
                  dsimp only at q
                  cases hp : pyOkL ds && pyOk d with
                  | false => rw [hp, if_neg (by decide)] at q; exact q.elim
                  | true =>
                    rw [hp, if_pos rfl] at q
                    cases hj : idxD ds d with
                    | none => rw [hj] at q; exact q.elim
                    | some j =>
                      rw [hj] at q
                      obtain ⟨d', ds', z, c1, c2, c3, c4, c5, c6, c7⟩ := idx_fin (K := X.K) (H := H2) s2.le (RpDs.sub s2.g (paired_of h2 h3)) (rp_sh r2) hp hj
                      exact ⟨vs, .inl (.inr ⟨o, s2.le _ _ (s2.g _ _ h4)⟩), d', ds', j, z, c1, c2, c3, c4, c5, c6, c7, q _ G2 H2 Emp (s1.trans s2) (.sh' (.int _))⟩
                | _ => exact q.elim
        | lst ds =>
          have r' := rp_sh r1
          cases r' with
          | @lst _ a vs h1 h2 h3 =>
            refine ⟨a, rfl, .inl ⟨⟨vs, SqL.of (s1.le _ _ h1)⟩, G1, Fs, S.step0 s1, ?_⟩⟩
            dsimp only at q
            cases e2 : g env with
            | stk => rw [e2] at q; exact q
            | exc c u => rw [e2] at q; exact fun G' H' s => q G' H' (s1.trans s)
            | ok y =>
              rw [e2, bind_ok] at q
              intro u G2 H2 F2 s2 r2
              cases y with
              | sh d =>
                dsimp only at q
                cases hp : pyOkL ds && pyOk d with
                | false => rw [hp, if_neg (by decide)] at q; exact q.elim
                | true =>
                  rw [hp, if_pos rfl] at q
                  cases hj : idxD ds d with
                  | none => rw [hj] at q; exact q.elim
                  | some j =>
                    rw [hj] at q
                    obtain ⟨d', ds', z, c1, c2, c3, c4, c5, c6, c7⟩ := idx_fin (K := X.K) (H := H2) s2.le (RpDs.sub s2.g (paired_of h2 h3)) (rp_sh r2) hp hj
                    exact ⟨vs, SqL.of (s2.le _ _ (s2.g _ _ h1)), d', ds', j, z, c1, c2, c3, c4, c5, c6, c7, q _ G2 H2 Emp (s1.trans s2) (.sh' (.int _))⟩
              | _ => exact q.elim
        | _ => exact q.elim
      | _ => exact q.elim
end
end
end FD


set_option Elab.async false
set_option linter.all false
set_option maxRecDepth 100000
/-! F17: tuples whose methods may be called; ranges as lists; instances made, stored into; aug-assigns. -/
namespace FD
noncomputable section
open PySem PySem.Spec L2
section
variable {X : Cx} {W : Wd} {Wx : WX} {pr : List Nat} {G G' H H' : Hp} {env env' : En} {σ σ' : St} {Fs Fs' : Nat → Fp} {F F' : Fp}
/-! ### tuple(x), its object known -/
def kTupM (K : PySem.W.Frag) (x : V) (H : Hp) (Q : VK) : Prop :=
  (∃ p xs, x = .ref p ∧ SqL K H p xs ∧ ∀ q o, o.dict = none → H q = none → Q (.ref q) (upd H q (.frz o (.tup xs)))) ∨ (∃ p xs, x = .ref p ∧ SqT K H p xs ∧ Q (.ref p) H)
open PyProof.Rows hiding St in
theorem call_tupleM : CallR X (.type "tuple") (fun xs H Q => ∃ x, xs = [x] ∧ kTupM X.K x H Q) := by
  intro pins s σ H xs us Q I rs h
  obtain ⟨x, rfl, h⟩ := h
  obtain ⟨v, rfl, r⟩ := vals1 rs
  rcases h with ⟨p, xs, rfl, hs, q⟩ | ⟨p, xs, rfl, hs, q⟩
  · obtain rfl : v = .ref p := r
    obtain ⟨its, rv, pl, hz⟩ := I.list hs
    refine call_tuple_list pl.isList (fun h' hk => ?_) (by rw [List.size_toArray, ← rv.length]; exact hz)
    have I1 : Inv X pins σ H { s with heap := h' } := I.kept (t' := s.toks) hk
    have I2 : Inv X pins σ (upd H h'.objs.size (.frz { cls := .type "tuple", data := .seq its.toArray } (.tup xs))) { s with heap := h'.push { cls := .type "tuple", data := .seq its.toArray } } :=
      I1.laid (t' := s.toks) (fun b o e => Heap.get?_push_of_some _ e) (Nat.le_refl _) (show ObjOk X.prog X.w _ _ _ (.frz _ (.tup xs)) from ⟨Heap.get?_push_size _ rfl, hz, its, rv, IsTup.new _ _⟩)
    exact ⟨.ref h'.objs.size, _, I2, rfl, q _ _ rfl (I1.hok.fresh (Nat.le_refl _))⟩
  · obtain rfl : v = .ref p := r
    obtain ⟨its, rv, pl, hz⟩ := I.tuple hs
    exact call_tuple_tup pl ⟨.ref p, H, I, rfl, q⟩
def oTupleM : List O → Option O
  | [.sh (.tup m xs)] => some (.sh (.tup m xs))
  | [x] => (itemsD x).bind fun p => if p.1 then some (.sh (.tup true p.2)) else none
  | _ => none
theorem step_frz (le : Sub G H) (b : TabOk W H) {p : Addr} {o : HO} (hp : H p = none) : Step W G H Emp (upd G p o) (upd H p o) Emp := step_sh le b hp
theorem v_tupleM : CallR X (.type "tuple") (fun xs H Q => ∃ x, xs = [x] ∧ kTupM X.K x H Q) ∧ OpN W (fun xs H Q => ∃ x, xs = [x] ∧ kTupM X.K x H Q) oTupleM := by
  refine ⟨call_tupleM, opN_1 (fun xs z h => ?_) fun G H x z v F1 Q le b r e q => ?_⟩
  · unfold oTupleM at h
    split at h
    · exact ⟨_, rfl⟩
    · exact ⟨_, rfl⟩
    · cases h
  · have gen : ((itemsD x).bind fun p => if p.1 then some (O.sh (.tup true p.2)) else none) = some z → kTupM X.K v H Q := fun e => by
      cases e1 : itemsD x with
      | none => rw [e1] at e; cases e
      | some p =>
        obtain ⟨bb, ds⟩ := p
        rw [e1, Option.bind_some] at e
        cases bb with
        | false => cases e
        | true =>
          cases e
          obtain ⟨p, ws, rfl, hs, hp⟩ := itemsD_some (K := X.K) le r e1
          refine .inl ⟨p, ws, rfl, by simpa using hs, fun p' o ho hp' => ?_⟩
          refine q _ _ _ Emp (step_frz le b hp') (.sh' ?_)
          have hd := hp.sub (sub_upd (none_of_le le hp') (o := .frz o (.tup ws)))
          exact .tup (m := true) ⟨o, upd_same, ho⟩ hd.length (paired_get' hd)
    refine ⟨v, rfl, ?_⟩
    unfold oTupleM at e
    split at e
    · rename_i e0
      cases e0
      cases e
      have r' := rp_sh r
      cases r' with
      | @tup _ _ p vs h1 h2 h3 => exact .inr ⟨p, vs, rfl, .inl (Rd.sub le h1.rd), q _ G H Emp (Step.refl le b) (.sh' (.tup h1 h2 h3))⟩
    · rename_i e0
      cases e0
      exact gen e
    · cases e
/-! ### list(range(..)) -/
def tR (W : Wd) (Wx : WX) (env : En) (r : R Unit (Int × Int)) : St → Hp → (Int → Int → Hp → Prop) → Prop := fun σ H Q => ∃ G Fs, Sim W G env σ H Fs ∧ match r with
  | .ok p => ∀ G' H', Step W G H Emp G' H' Emp → Q p.1 p.2 H'
  | .exc c _ => ∀ G' H', Step W G H Emp G' H' Emp → Wx (.ref (W.C.cls c)) none σ H'
  | .stk => False
def SR (X : Cx) (W : Wd) (Wx : WX) (f : En → R Unit (Int × Int)) (e : Expr) : Prop := ∀ env, PRg X e (tR W Wx env (f env))
theorem PRg.imp {e : Expr} {t t' : St → Hp → (Int → Int → Hp → Prop) → Prop} (h : PRg X e t) (hi : ∀ σ H Q, t' σ H Q → t σ H Q) : PRg X e t' := fun pins s σ H Q I q => h pins s σ H Q I (hi σ H Q q)
def rg1 (f : En → RP) : En → R Unit (Int × Int) := fun env => (f env).bind fun x => ofO ((asI x).map fun n => (0, n))
def rg2 (f g : En → RP) : En → R Unit (Int × Int) := fun env => (f env).bind fun x => (g env).bind fun y => ofO ((asI x).bind fun i => (asI y).map fun j => (i, j))
theorem SR_1 {f : En → RP} {a : Expr} {p pos : Pos} (hg : Gl X "range") (hm : X.mg "range" = none) (ha : SP X W Wx f a) (na : starEach [a] X.env = (false, eval a X.env) :: starEach [] X.env := by rfl) : SR X W Wx (rg1 f) (.Call (.Name "range" p) [a] [] pos) := fun env => PRg.imp (prg_1 hg hm (ha env) na) fun σ H Q => by
  rintro ⟨G, Fs, S, q⟩
  refine ⟨G, Fs, S, ?_⟩
  unfold rg1 at q
  cases e1 : f env with
  | stk => rw [e1] at q; exact q
  | exc c u => rw [e1] at q; exact q
  | ok x =>
    rw [e1, bind_ok] at q
    intro v G1 H1 F1 s1 r1
    cases e2 : asI x with
    | none => rw [e2] at q; exact q.elim
    | some n =>
      rw [e2] at q
      rw [asI_some e2] at r1
      exact ⟨n, rp_int r1, q G1 H1 s1⟩
theorem SR_2 {f g : En → RP} {a b : Expr} {p pos : Pos} (hg : Gl X "range") (hm : X.mg "range" = none) (ha : SP X W Wx f a) (hb : SP X W Wx g b) (na : starEach [a, b] X.env = (false, eval a X.env) :: starEach [b] X.env := by rfl) (nb : starEach [b] X.env = (false, eval b X.env) :: starEach [] X.env := by rfl) (np : (backTo pos (starEach [b] X.env)).any (·.1) = false := by rfl) : SR X W Wx (rg2 f g) (.Call (.Name "range" p) [a, b] [] pos) := fun env => PRg.imp (prg_2 hg hm (ha env) (hb env) na nb np) fun σ H Q => by
  rintro ⟨G, Fs, S, q⟩
  refine ⟨G, Fs, S, ?_⟩
  unfold rg2 at q
  cases e1 : f env with
  | stk => rw [e1] at q; exact q
  | exc c u => rw [e1] at q; exact q
  | ok x =>
    rw [e1, bind_ok] at q
    intro v G1 H1 F1 s1 r1
    refine ⟨G1, Fs, S.step0 s1, ?_⟩
    cases e3 : g env with
    | stk => rw [e3] at q; exact q
    | exc c u => rw [e3] at q; exact fun G' H' s => q G' H' (s1.trans s)
    | ok y =>
      rw [e3, bind_ok] at q
      intro u G2 H2 F2 s2 r2
      cases e2 : asI x with
      | none => rw [e2] at q; exact q.elim
      | some n =>
        rw [e2, Option.bind_some] at q
        cases e4 : asI y with
        | none => rw [e4] at q; exact q.elim
        | some m =>
          rw [e4] at q
          rw [asI_some e2] at r1
          rw [asI_some e4] at r2
          exact ⟨n, m, rp_int r1, rp_int r2, q G2 H2 (s1.trans s2)⟩
def okR (a b : Int) : Bool := okI a && okI b && decide ((b - a).toNat ≤ lim)
theorem okR_ok {a b : Int} (h : okR a b = true) : RgOk a b := by
  unfold okR at h
  rw [Bool.and_eq_true, Bool.and_eq_true] at h
  obtain ⟨⟨h1, h2⟩, h3⟩ := h
  obtain ⟨h4, h5⟩ := okI_ok h1
  obtain ⟨h6, h7⟩ := okI_ok h2
  exact ⟨h4, h5, h6, h7, by have := lim_le (of_decide_eq_true h3); rw [sizeLine_eq] at this; exact this⟩
theorem rg_rp (a b : Int) : RpDs W G (rngD a b) (rgV a b) := by
  unfold rngD rgV
  induction List.range (b - a).toNat with
  | nil => exact .nil
  | cons n r ih => exact .cons (.int _) ih
def bLstR (f : En → R Unit (Int × Int)) : En → RP := fun env => (f env).bind fun p => if okR p.1 p.2 then .ok (.lst ((rngD p.1 p.2).map .sh)) else .stk
def bTupR (f : En → R Unit (Int × Int)) : En → RP := fun env => (f env).bind fun p => if okR p.1 p.2 then .ok (.sh (.tup false (rngD p.1 p.2))) else .stk
theorem SV_listR {f : En → R Unit (Int × Int)} {e : Expr} {p pos : Pos} (hc : X.calm = true) (hg : Gl X "list") (hm : X.mg "list" = none) (he : SR X W Wx f e) (na : starEach [e] X.env = (false, eval e X.env) :: starEach [] X.env := by rfl) : SV X W Wx (bLstR f) (.Call (.Name "list" p) [e] [] pos) := fun env => (pe_listRg hc hg hm (he env) na).imp fun σ H Q => by
  rintro ⟨G, Fs, S, q⟩
  refine ⟨G, Fs, S, ?_⟩
  unfold bLstR at q
  cases e1 : f env with
  | stk => rw [e1] at q; exact q
  | exc c u => rw [e1] at q; exact q
  | ok pp =>
    rw [e1, bind_ok] at q
    intro G1 H1 s1
    cases hk : okR pp.1 pp.2 with
    | false => rw [hk, if_neg (by decide)] at q; exact q.elim
    | true =>
      rw [hk, if_pos rfl] at q
      refine ⟨okR_ok hk, fun p hp => ?_⟩
      exact q _ _ _ _ (s1.trans (step_own s1.le s1.b hp)) (RpDs.own (none_of_le s1.le hp) upd_same (rg_rp _ _))
theorem SV_tupR {f : En → R Unit (Int × Int)} {e : Expr} {p pos : Pos} (hc : X.calm = true) (hg : Gl X "tuple") (hm : X.mg "tuple" = none) (he : SR X W Wx f e) (na : starEach [e] X.env = (false, eval e X.env) :: starEach [] X.env := by rfl) : SV X W Wx (bTupR f) (.Call (.Name "tuple" p) [e] [] pos) := fun env => (pe_tupRg hc hg hm (he env) na).imp fun σ H Q => by
  rintro ⟨G, Fs, S, q⟩
  refine ⟨G, Fs, S, ?_⟩
  unfold bTupR at q
  cases e1 : f env with
  | stk => rw [e1] at q; exact q
  | exc c u => rw [e1] at q; exact q
  | ok pp =>
    rw [e1, bind_ok] at q
    intro G1 H1 s1
    cases hk : okR pp.1 pp.2 with
    | false => rw [hk, if_neg (by decide)] at q; exact q.elim
    | true =>
      rw [hk, if_pos rfl] at q
      refine ⟨okR_ok hk, fun p hp => ?_⟩
      exact q _ _ _ Emp (s1.trans (step_sh s1.le s1.b hp)) (.sh' (RpDs.tup upd_same (rg_rp _ _)))
/-! ### instances made -/
theorem run_makeS {CX : CXT} {k : Nat} {f C : Addr} {fd : FuncData} {ps : List Str} {sp : Sp} {E : XK} {pins : List (Addr × Obj)} {σ : St} {H : Hp} {s : Shared} {Q : VK} {us : List Value} {vs : List V} (M : Mk X.K C f) (F : FnOk X.prog X.w X.K X.mg X.base CX k f fd ps sp) (hr : Room (k + 1) X.A) (hb : Binds X.K fd ps [])
    (hx : PassesAt CX X σ E) (I : Inv X pins σ H s) (r : Vals vs us)
    (h : ∀ x dx, H x = none → H dx = none → dx ≠ x → sp (.ref x :: vs) (upd (upd H dx (.own x)) x (.ins C dx [])) (fun v H2 => v = .non ∧ Q (.ref x) H2) E) :
    wpAny (model X.prog X.w) X.A (call (.ref C) us) (EP X pins σ Q) X.xe s := by
  have hq := h (s.heap.objs.size + 1) s.heap.objs.size (I.hok.fresh (Nat.le_succ _)) (I.hok.fresh (Nat.le_refl _)) (Nat.ne_of_lt (Nat.lt_succ_self _))
  have I2 := Inv.made (C := C) I
  have r2 : Vals (V.ref (s.heap.objs.size + 1) :: vs) (Value.ref (s.heap.objs.size + 1) :: us) := .cons rfl r
  have hl : (Value.ref (s.heap.objs.size + 1) :: us ++ []).length = ps.length := by
    have e := r2.length
    rw [F.len _ _ _ _ hq] at e
    rw [List.append_nil]
    exact e.symm
  have hbb := hb _ (Value.ref (s.heap.objs.size + 1) :: us) I2.kIn hl
  rw [List.append_nil] at hbb
  refine wpAny_call (make_map (f := f) I.kIn M.makes M.init (beq_iff_eq.mp M.fn) (codeAny_mono (F.run _ X.stack _ _ ⟨Value.ref (s.heap.objs.size + 1) :: us, []⟩ (Value.ref (s.heap.objs.size + 1) :: us) _ _ E (hr.make C us [])
    (I2.env0.make C us []) hbb r2 hq) fun r s' hq' => ?_))
  cases r with
  | error e => exact hx pins _ _ e s' I2 hq'
  | ok fl =>
    cases fl with
    | ret u =>
      obtain ⟨v, H', I3, rv, ev, q3⟩ := I2.after hq'
      subst ev
      exact ⟨rv, ⟨V.ref (s.heap.objs.size + 1), H', I3, rfl, q3⟩⟩
    | next => exact False.elim hq'
    | brk => exact False.elim hq'
    | cont => exact False.elim hq'
def tMakeS (C : Addr) (sp : Sp) (E : St → XK) (t : TA) : TE := fun σ H Q => t σ H fun vs H1 => ∀ x dx, H1 x = none → H1 dx = none → dx ≠ x →
  sp (.ref x :: vs) (upd (upd H1 dx (.own x)) x (.ins C dx [])) (fun v H2 => v = .non ∧ Q (.ref x) H2) (E σ)
theorem pe_makeS {CX : CXT} {k : Nat} {f C : Addr} {fd : FuncData} {ps : List Str} {sp : Sp} {E : St → XK} {x : Str} {p pos : Pos} {e : Expr} {es : List Expr} {t : TA} (M : Mk X.K C f) (F : FnOk X.prog X.w X.K X.mg X.base CX k f fd ps sp) (hr : Room (k + 1) X.A) (hg : Gl X x) (hm : X.mg x = some (.ref C)) (hb : Binds X.K fd ps []) (hx : ∀ σ, PassesAt CX X σ (E σ))
    (ha : PA X (e :: es) t) (hdb : (x == ("__debug__" : Str)) = false := by decide) (he : starEach (e :: es) X.env = (false, eval e X.env) :: starEach es X.env := by rfl) (hpl : (backTo pos (starEach es X.env)).any (·.1) = false := by rfl) :
    PE X (.Call (.Name x p) (e :: es) [] pos) (tMakeS C sp E t) := by
  refine ⟨fun pins s σ H Q I h => ?_⟩
  refine wpAny_Call_Name_kw (ld_glob I hg hm ?_ hdb)
  refine PySem.W.callWith_K (h₀ := X.base) I.ok.mod.kin M.kp (thn (ha.run pos pins s σ H _ I h) fun us s1 ⟨vs, H1, I1, r, q⟩ => ⟨I1.kIn, ?_⟩) he hpl
  exact run_makeS M F hr hb (hx σ) I1 r q
def eMake (c : Nat) (T : List O → RC) (h : En → R En (List O × En)) : En → RE := fun env => (h env).bind fun p => match T (.ins c [] :: p.1) with
  | .ok _ [x] => .ok (x, p.2)
  | .exc c' _ => .exc c' p.2
  | _ => .stk
theorem SE_make {k n c : Nat} {f : Addr} {fd : FuncData} {ps : List Str} {T : List O → RC} {ks : List (Option Nat)} {h : En → R En (List O × En)} {x : Str} {p pos : Pos} {e : Expr} {es : List Expr}
    (M : Mk X.K (W.C.cls c) f) (F : FnOk X.prog X.w X.K X.mg X.base (L2.CX X.prog X.w) k f fd ps (spC W n [0] T)) (hT : ∀ ds, (T ds) ≠ .stk → ds.length = n) (hr : Room (k + 1) X.A) (hg : Gl X x) (hm : X.mg x = some (.ref (W.C.cls c))) (hb : Binds X.K fd ps []) (tk : Takes X Wx)
    (ha : SN X W Wx ks h (e :: es)) (hnon : ∀ ds d fin, T ds = .ok d fin → d = .sh .non) (hdb : (x == ("__debug__" : Str)) = false := by decide) (he : starEach (e :: es) X.env = (false, eval e X.env) :: starEach es X.env := by rfl) (hpl : (backTo pos (starEach es X.env)).any (·.1) = false := by rfl) :
    SE X W Wx (eMake c T h) (.Call (.Name x p) (e :: es) [] pos) := fun env => (pe_makeS M F hr hg hm hb (fun σ => passAt tk σ) (ha env) hdb he hpl).imp fun σ H Q => by
  rintro ⟨G, Fs, S, q⟩
  refine ⟨G, Fs, S, ?_⟩
  unfold eMake at q
  cases e1 : h env with
  | stk => rw [e1] at q; exact q
  | exc c u => rw [e1] at q; exact q
  | ok pp =>
    obtain ⟨ds, e2⟩ := pp
    rw [e1, bind_ok] at q
    intro vs G1 H1 FA Fs1 s1 A1 S1 d1 k1 y dx hy hdx hne
    dsimp only at q
    have s2 := step_own s1.le s1.b hdx (o := .own y)
    have hy2 : upd H1 dx (.own y) y = none := by rw [upd_ne hne.symm]; exact hy
    have s3 := step_own s2.le s2.b hy2 (o := .ins (W.C.cls c) dx [])
    have s4 : Step W G1 H1 Emp G1 (upd (upd H1 dx (.own y)) y (.ins (W.C.cls c) dx [])) (fun a => a = y) := (s2.wide (F1' := Emp) (fun _ h => h) fun _ h => .inl h).trans s3
    have rI : RpO W.C G1 (upd (upd H1 dx (.own y)) y (.ins (W.C.cls c) dx [])) (.ins c []) (.ref y) (fun a => a = y) := .ins (fun _ => Emp) (none_of_le s1.le hy) upd_same rfl (fun i d v h => by simp at h) (fun _ _ _ _ h => h.elim) (fun _ _ h => h.elim) fun a => ⟨.inl, fun h => h.elim id fun ⟨_, h⟩ => h.elim⟩
    have nA : ∀ i a, FA i a → a ≠ y := fun i a ha e => by
      have hi := A1.bd i a ha
      obtain ⟨_, o, h2, _⟩ := (A1.rp i _ _ (List.getElem?_eq_getElem hi) (List.getElem?_eq_getElem (by rw [← A1.len]; exact hi))).own a ha
      rw [e, hy] at h2; cases h2
    have A2 : ArgsOk W G1 (upd (upd H1 dx (.own y)) y (.ins (W.C.cls c) dx [])) ds vs FA := ⟨A1.len, fun i d v h1 h2 => (A1.rp i d v h1 h2).step0 s4, A1.dj, A1.bd⟩
    have A3 := ArgsOk.cons rI A2 fun i a h1 h2 => nA i a h2 h1
    have S2 := S1.step0 s4
    have apF : ∀ i a, Fs1 i a → ¬ All (consF (fun a => a = y) FA) a := fun i a h1 h2 => by
      rcases all_cons.mp h2 with h2 | ⟨j, h2⟩
      · obtain ⟨_, o, h3, _⟩ := S1.ow i a h1
        rw [h2, hy] at h3; cases h3
      · exact d1 j i a h2 h1
    refine ⟨G1, .ins c [] :: ds, _, s4.le, s4.b, A3, ?_, ?_⟩
    · refine hT _ fun e => ?_
      rw [e] at q; exact q
    cases e3 : T (.ins c [] :: ds) with
    | stk => rw [e3] at q; exact q
    | ok d fin =>
      have ed := hnon _ _ _ e3
      subst ed
      rw [e3] at q
      match fin, q with
      | [z], q =>
        intro v G' H' F1 FB s5 r5 FO dd
        refine ⟨rp_non r5, ?_⟩
        have r6 := FO.rp 0 0 z (.ref y) rfl rfl rfl
        have S3 := S2.step s5 apF
        have ap : ∀ i a, FB 0 a → ¬ Fs1 i a := fun i a h1 h2 => by
          rcases s5.f a (.inr ⟨0, h1⟩) with z | z
          · exact apF i a h2 z
          · obtain ⟨_, o, h3, _⟩ := S2.ow i a h2
            rw [h3] at z; cases z
        refine q (.ref y) G' H' (FB 0) Fs1 (s1.trans ((s4.wide (F1 := fun a => All FA a ∨ All Fs1 a) (F1' := fun a => All (consF (fun a => a = y) FA) a ∨ All Fs1 a) (fun _ h => h.elim) fun a h => ?_).trans (s5.wide (fun _ h => .inl h) fun a h => ?_))) r6 S3 ap
        · rcases h with h | h
          · rcases all_cons.mp h with h | h
            · exact .inr h
            · exact .inl (.inl h)
          · exact .inl (.inr h)
        · rcases h with h | h
          · exact .inr (.inr ⟨0, h⟩)
          · exact .inl (.inr h)
      | [], q => exact q.elim
      | _ :: _ :: _, q => exact q.elim
    | exc c' fin =>
      rw [e3] at q
      intro G' H' FB s5 FO
      have S3 := S2.step s5 apF
      refine q G' H' Fs1 (s1.trans ((s4.wide (F1 := fun a => All FA a ∨ All Fs1 a) (F1' := fun a => All (consF (fun a => a = y) FA) a ∨ All Fs1 a) (fun _ h => h.elim) fun a h => ?_).trans (s5.wide (fun _ h => .inl h) fun a h => .inl (.inr h)))) S3
      rcases h with h | h
      · rcases all_cons.mp h with h | h
        · exact .inr h
        · exact .inl (.inl h)
      · exact .inl (.inr h)
theorem Paired.app {α β : Type} {R : α → β → Prop} : ∀ {a c : List α} {b d : List β}, Paired R a b → Paired R c d → Paired R (a ++ c) (b ++ d)
  | _, _, _, _, .nil, h => h
  | _, _, _, _, .cons r t, h => .cons r (Paired.app t h)
/-! ### self.f = v -/
def putFG {α : Type} (f : Str) (v : α) : List (Str × α) → List (Str × α)
  | [] => [(f, v)]
  | (g, x) :: r => if g = f then (g, v) :: r else (g, x) :: putFG f v r
theorem putF_putFG (f : Str) (v : V) (fs : List (Str × V)) : putF f v fs = putFG f v fs := by
  induction fs with
  | nil => rfl
  | cons p r ih =>
    obtain ⟨g, x⟩ := p
    show (if g = f then (g, v) :: r else (g, x) :: putF f v r) = (if g = f then (g, v) :: r else (g, x) :: putFG f v r)
    rw [ih]
/-- where it is put -/
def placeF (f : Str) : List Str → Nat
  | [] => 0
  | g :: r => if g = f then 0 else placeF f r + 1
theorem putFG_vals {α : Type} (f : Str) (v : α) : ∀ fs : List (Str × α), ∀ i, ((putFG f v fs).map (·.2))[i]? = if i = placeF f (fs.map (·.1)) then some v else (fs.map (·.2))[i]?
  | [], i => by
    unfold putFG placeF
    cases i with
    | zero => rfl
    | succ i => simp
  | (g, x) :: r, i => by
    unfold putFG
    rw [List.map_cons]
    unfold placeF
    by_cases h : g = f
    · rw [if_pos h, if_pos h]
      cases i with
      | zero => rfl
      | succ i => simp
    · rw [if_neg h, if_neg h]
      cases i with
      | zero => simp
      | succ i =>
        have := putFG_vals f v r i
        simp only [List.map_cons, List.getElem?_cons_succ, Nat.add_right_cancel_iff]
        exact this
theorem putFG_keys {α β : Type} (f : Str) (v : α) (w : β) : ∀ {fs : List (Str × α)} {gs : List (Str × β)}, fs.map (·.1) = gs.map (·.1) → (putFG f v fs).map (·.1) = (putFG f w gs).map (·.1)
  | [], [], _ => rfl
  | [], _ :: _, h => by cases h
  | _ :: _, [], h => by cases h
  | (g, x) :: r, (g', x') :: r', h => by
    rw [List.map_cons, List.map_cons] at h
    injection h with h1 h2
    have h1 : g = g' := h1
    subst h1
    unfold putFG
    by_cases h : g = f
    · rw [if_pos h, if_pos h, List.map_cons, List.map_cons, h2]
    · rw [if_neg h, if_neg h, List.map_cons, List.map_cons, putFG_keys f v w h2]
theorem placeF_le (f : Str) : ∀ l : List Str, placeF f l ≤ l.length
  | [] => Nat.le_refl _
  | g :: r => by
    unfold placeF
    split
    · exact Nat.zero_le _
    · exact Nat.succ_le_succ (placeF_le f r)
theorem putFG_len {α : Type} (f : Str) (v : α) : ∀ fs : List (Str × α), (putFG f v fs).length ≤ fs.length + 1 ∧ fs.length ≤ (putFG f v fs).length ∧ placeF f (fs.map (·.1)) < (putFG f v fs).length
  | [] => ⟨Nat.le_refl _, Nat.zero_le _, Nat.zero_lt_one⟩
  | (g, x) :: r => by
    obtain ⟨h1, h2, h3⟩ := putFG_len f v r
    unfold putFG
    rw [List.map_cons]
    unfold placeF
    split
    · simp
    · simp only [List.length_cons]; omega
def insG (env : En) (i : Nat) : Option (Nat × List (Str × O)) := match gt env i with
  | some (.ins c fs) => some (c, fs)
  | _ => none
theorem insG_some {i c : Nat} {fs : List (Str × O)} (h : insG env i = some (c, fs)) : gt env i = some (.ins c fs) := by
  unfold insG at h
  split at h
  · rename_i e; cases h; exact e
  · cases h
def sFldS (cs : List Nat) (i : Nat) (f : Str) (g : En → RE) : En → RS := fun env => match g env with
  | .ok (d, e) => match insG e i with
    | some (c, fs) => if cs.contains c && decide (fs.length < 1000) then .nx (e.set i (some (.ins c (putFG f d fs)))) else .stk
    | none => .stk
  | .exc c e => .exc c e
  | .stk => .stk
theorem SS_fld (cs : List Nat) (i : Nat) {f : Str} {g : En → RE} {x : Str} {e : Expr} {p pos' pos : Pos} (hf : FldOk X.K W f cs) (hg : SE X W Wx g e) (hN : X.N[i]? = some x := by rfl) (hv : Vis X.env.scope x := by first | exact Or.inl rfl | exact Or.inr (Or.inl rfl) | exact Or.inr (Or.inr rfl)) (hd : (x == ("__debug__" : Str)) = false := by decide)
    (hcd : (x == ("__classdict__" : Str)) = false := by decide) (hs : swapsWith e (some (.Attribute (.Name x p) f pos')) pos.line X.env = pure false := by rfl) : SS X W Wx pr (sFldS cs i f g) (.Assign [.Attribute (.Name x p) f pos'] e pos) := fun env => (ps_fld (pe_var hN hv hd hcd) (hg env) hs).imp fun D σ H => by
  rintro ⟨G, Fs, S, q⟩
  refine ⟨G, Fs, S, ?_⟩
  unfold sFldS at q
  cases e1 : g env with
  | stk => rw [e1] at q; exact q
  | exc c u => rw [e1] at q; exact fun G' H' Fs' s S' => q σ G' H' Fs' s S' (Pr.refl _ _)
  | ok pp =>
    obtain ⟨y, e2⟩ := pp
    rw [e1] at q
    intro v G1 H1 F1 Fs1 s1 r1 S1 d1
    dsimp only at q
    cases e3 : insG e2 i with
    | none => rw [e3] at q; exact q.elim
    | some cc =>
      obtain ⟨c, fs⟩ := cc
      rw [e3] at q
      dsimp only at q
      by_cases hc : (cs.contains c && decide (fs.length < 1000)) = true
      · rw [if_pos hc] at q
        rw [Bool.and_eq_true] at hc
        have hc1 : c ∈ cs := by simpa using hc.1
        have hc2 : fs.length < 1000 := of_decide_eq_true hc.2
        obtain ⟨k1, k2⟩ := hf.at_ c hc1
        obtain ⟨w, hw, r⟩ := S1.rp i _ (gt_some (insG_some e3))
        cases r with
        | @ins _ _ p dx vs _ Fa g1 h1 hk hv2 dj bd hF =>
          have hlen : fs.length = vs.length := by have := congrArg List.length hk; simpa using this
          refine ⟨.ref p, hw, p, _, dx, vs, rfl, h1, k1, k2, by rw [← hlen]; exact hc2, ?_⟩
          rw [putF_putFG]
          have pl : placeF f (fs.map (·.1)) = placeF f (vs.map (·.1)) := by rw [hk]
          have dF : ∀ k a, F1 a → ¬ Fa k a := fun k a q1 q2 => d1 i a q1 ((hF a).mpr (.inr ⟨k, q2⟩))
          have nP : ∀ a, F1 a → a ≠ p := fun a q1 e => d1 i a q1 ((hF a).mpr (.inl e))
          obtain ⟨l1, l2, l3⟩ := putFG_len f y fs
          have r' : RpO W.C G1 (upd H1 p (.ins (W.C.cls c) dx (putFG f v vs))) (.ins c (putFG f y fs)) (.ref p) (fun a => a = p ∨ ∃ k, (if k = placeF f (fs.map (·.1)) then F1 else Fa k) a) := by
            refine .ins (fun k => if k = placeF f (fs.map (·.1)) then F1 else Fa k) g1 upd_same (putFG_keys f y v hk) (fun k d u q1 q2 => ?_) (fun k l a hkl q1 q2 => ?_) (fun k a q1 => ?_) fun a => Iff.rfl
            · rw [putFG_vals] at q1 q2
              rw [← pl] at q2
              by_cases hk2 : k = placeF f (fs.map (·.1))
              · rw [if_pos hk2] at q1 q2 ⊢
                cases q1; cases q2
                exact r1.keep (fun _ _ h => h) fun a ha => ⟨(r1.own a ha).1, upd_ne (nP a ha)⟩
              · rw [if_neg hk2] at q1 q2 ⊢
                have r2 := hv2 k d u q1 q2
                exact r2.keep (fun _ _ h => h) fun a ha => ⟨(r2.own a ha).1, upd_ne (bd k a ha).2⟩
            · by_cases hk2 : k = placeF f (fs.map (·.1))
              · by_cases hl2 : l = placeF f (fs.map (·.1))
                · exact hkl (hk2.trans hl2.symm)
                · rw [if_pos hk2] at q1; rw [if_neg hl2] at q2; exact dF l a q1 q2
              · by_cases hl2 : l = placeF f (fs.map (·.1))
                · rw [if_neg hk2] at q1; rw [if_pos hl2] at q2; exact dF k a q2 q1
                · rw [if_neg hk2] at q1; rw [if_neg hl2] at q2; exact dj k l a hkl q1 q2
            · by_cases hk2 : k = placeF f (fs.map (·.1))
              · rw [if_pos hk2] at q1
                exact ⟨by rw [hk2]; exact l3, nP a q1⟩
              · rw [if_neg hk2] at q1
                obtain ⟨b1, b2⟩ := bd k a q1
                exact ⟨by omega, b2⟩
          have hs : ∀ a, (a = p ∨ ∃ k, (if k = placeF f (fs.map (·.1)) then F1 else Fa k) a) → Fs1 i a ∨ F1 a := fun a h => by
            rcases h with h | ⟨k, h⟩
            · exact .inl ((hF a).mpr (.inl h))
            · by_cases hk2 : k = placeF f (fs.map (·.1))
              · rw [if_pos hk2] at h; exact .inr h
              · rw [if_neg hk2] at h; exact .inl ((hF a).mpr (.inr ⟨k, h⟩))
          obtain ⟨s2, S2⟩ := upd_slot (Fnew := F1) S1 hw ((hF p).mpr (.inl rfl)) r' hs (fun j a h => d1 j a h)
          exact q σ G1 _ _ ((s1.wide (F1' := fun a => All Fs1 a ∨ F1 a) (fun _ h => h) fun a h => .inr (h.elim .inr .inl)).trans (s2.wide (fun _ h => h) fun a h => .inr (.inl h))) S2 (Pr.refl _ _)
      · rw [if_neg hc] at q; exact q.elim
/-! ### x op= e -/
/-- shared values -/
def sAugV (i : Nat) (go : O → O → Option O) (f : En → RE) : En → RS := fun env => match gt env i with
  | some (.sh d) => match f env with
    | .ok (y, e) => match go (.sh d) y with
      | some z => .nx (e.set i (some z))
      | none => .stk
    | .exc c e => .exc c e
    | .stk => .stk
  | _ => .stk
theorem SS_augV (i : Nat) {op : Operator} {r : R2} {go : O → O → Option O} {f : En → RE} {x : Str} {e : Expr} {pos' pos : Pos} (hr : OpR X (inplaceOp op) r) (ho : Op2 W r go) (hN : X.N.Nodup) (he : SE X W Wx f e) (hp : i ∉ pr := by decide) (hi : X.N[i]? = some x := by rfl) (hx : Loc X.env.scope x := by first | exact .inl rfl | exact .inr rfl)
    (hf : X.fn x = true ∨ X.env.scope.names.lookup x = some .local := by first | exact .inl rfl | exact .inr rfl) : SS X W Wx pr (sAugV i go f) (.AugAssign (.Name x pos') op e pos) := fun env => (ps_aug (ti := r) hN hi hx (he env) hr hf).imp fun D σ H => by
  rintro ⟨G, Fs, S, q⟩
  unfold sAugV at q
  cases e0 : gt env i with
  | none => rw [e0] at q; exact q.elim
  | some o0 =>
    rw [e0] at q
    cases o0 with
    | sh d =>
      obtain ⟨w, hw, r0⟩ := S.rp i _ (gt_some e0)
      refine ⟨w, hw, G, Fs, S, ?_⟩
      dsimp only at q
      cases e1 : f env with
      | stk => rw [e1] at q; exact q
      | exc c u => rw [e1] at q; exact fun G' H' Fs' s S' => q σ G' H' Fs' s S' (Pr.refl _ _)
      | ok pp =>
        obtain ⟨y, e2⟩ := pp
        rw [e1] at q
        intro v G1 H1 F1 Fs1 s1 r1 S1 d1
        dsimp only at q
        cases e3 : go (.sh d) y with
        | none => rw [e3] at q; exact q.elim
        | some z =>
          rw [e3] at q
          refine ho G1 H1 (.sh d) y z w v Emp F1 _ s1.le s1.b (.sh' ((rp_sh r0).sub s1.g)) r1 e3 fun u G' H' F' s r => ?_
          obtain ⟨a1, a2, a3⟩ := own_after S1 s s1
          exact q _ G' H' _ (a1.wide (fun _ h => h) fun a h => .inr (all_set a h)) (a2.set r fun j a h => a3 j a h) (Pr.set hp)
    | _ => exact q.elim
/-- a list in a slot, longer -/
def sExt (i : Nat) (f : En → RE) : En → RS := fun env => match lstG env i with
  | none => .stk
  | some _ => match f env with
    | .ok (y, e) => match (lstG e i).bind allSh with
      | some ds => match lstO y with
        | some ys => if szOk (ds.length + ys.length) then .nx (e.set i (some (.lst ((ds ++ ys).map .sh)))) else .stk
        | none => .stk
      | none => .stk
    | .exc c e => .exc c e
    | .stk => .stk
theorem SS_ext (i : Nat) {f : En → RE} {x : Str} {e : Expr} {pos' pos : Pos} (hN : X.N.Nodup) (he : SE X W Wx f e) (hi : X.N[i]? = some x := by rfl) (hx : Loc X.env.scope x := by first | exact .inl rfl | exact .inr rfl)
    (hf : X.fn x = true ∨ X.env.scope.names.lookup x = some .local := by first | exact .inl rfl | exact .inr rfl) : SS X W Wx pr (sExt i f) (.AugAssign (.Name x pos') .Add e pos) := fun env => (ps_aug (ti := rExt2) hN hi hx (he env) iop_ext hf).imp fun D σ H => by
  rintro ⟨G, Fs, S, q⟩
  unfold sExt at q
  cases e0 : lstG env i with
  | none => rw [e0] at q; exact q.elim
  | some xs0 =>
    rw [e0] at q
    obtain ⟨p0, vs0, Fa0, L0⟩ := S.lstAt (lstG_some e0)
    refine ⟨_, L0.sl, G, Fs, S, ?_⟩
    dsimp only at q
    cases e1 : f env with
    | stk => rw [e1] at q; exact q
    | exc c u => rw [e1] at q; exact fun G' H' Fs' s S' => q σ G' H' Fs' s S' (Pr.refl _ _)
    | ok pp =>
      obtain ⟨y, e2⟩ := pp
      rw [e1] at q
      intro v G1 H1 F1 Fs1 s1 r1 S1 d1
      dsimp only at q
      cases e3 : lstG e2 i with
      | none => rw [e3] at q; exact q.elim
      | some xs =>
        rw [e3, Option.bind_some] at q
        cases e4 : allSh xs with
        | none => rw [e4] at q; exact q.elim
        | some ds =>
          rw [e4] at q
          dsimp only at q
          cases e5 : lstO y with
          | none => rw [e5] at q; exact q.elim
          | some ys =>
            rw [e5] at q
            dsimp only at q
            cases hz : szOk (ds.length + ys.length) with
            | false => rw [hz, if_neg (by decide)] at q; exact q.elim
            | true =>
              rw [hz, if_pos rfl] at q
              obtain ⟨p1, vs, Fa, L⟩ := S1.lstAt (lstG_some e3)
              have ep : p1 = p0 := by
                have := L.sl
                rw [L0.sl] at this
                cases this; rfl
              subst ep
              have ex := allSh_some e4
              have hv : RpDs W G1 ds vs := RpDs.of (H := H1) (by
                rw [← ex]
                exact paired_of L.len fun i d v h1 h2 => ⟨Fa i, L.rp i d v h1 h2⟩)
              obtain ⟨b, zs, rfl, hb, hzs⟩ := lstO_some s1.le r1 e5
              refine ⟨p1, b, vs, zs, rfl, rfl, L.h, hb, by rw [← hv.length, ← hzs.length]; exact szOk_sz hz, ?_⟩
              obtain ⟨s2, S2⟩ := L.shared S1 (Paired.app hv hzs : RpDs W G1 (ds ++ ys) (vs ++ zs))
              rw [set_self L.sl]
              exact q σ G1 _ _ ((s1.wide (F1' := All Fs1) (fun _ h => h) fun a h => .inr (.inr h)).trans s2) S2 (Pr.refl _ _)
end
end
end FD


set_option Elab.async false
set_option linter.all false
set_option maxRecDepth 100000
/-! F18: chains, loops over what is owned, stores into tuples of names, slices behind effects. -/
namespace FD
noncomputable section
open PySem PySem.Spec L2
section
variable {X : Cx} {W : Wd} {Wx : WX} {pr : List Nat} {G G' H H' : Hp} {env env' : En} {σ σ' : St} {Fs Fs' : Nat → Fp} {F F' : Fp}
/-! ### a < b < c -/
def bChain (go go' : O → O → Option O) (f g h : En → RP) : En → RP := fun env => (f env).bind fun x => (g env).bind fun y => (ofO ((go x y).bind asB) : RB).bind fun k => if k then (h env).bind fun z => ofO (go' y z) else .ok (.sh (.bl false))
theorem chain_core {ta tb tc : TE} {r r' : R2} {go go' : O → O → Option O} {f g h : En → RP} {Q : VK} (ho : Op2 W r go) (ho' : Op2 W r' go') (ha : ∀ Q', tP W Wx env (f env) σ H Q' → ta σ H Q') (hb : ∀ H' Q', tP W Wx env (g env) σ H' Q' → tb σ H' Q') (hc : ∀ H' Q', tP W Wx env (h env) σ H' Q' → tc σ H' Q')
    (q : tV W Wx env (bChain go go' f g h env) σ H Q) : tChain r r' ta tb tc σ H Q := by
  obtain ⟨G, Fs, S, q⟩ := q
  refine ha _ ⟨G, Fs, S, ?_⟩
  unfold bChain at q
  cases e1 : f env with
  | stk => rw [e1] at q; exact q
  | exc c u => rw [e1] at q; exact q
  | ok x =>
    rw [e1, bind_ok] at q
    intro v G1 H1 F1 s1 r1
    refine hb _ _ ⟨G1, Fs, S.step0 s1, ?_⟩
    cases e2 : g env with
    | stk => rw [e2] at q; exact q
    | exc c u => rw [e2] at q; exact fun G' H' s => q G' H' (s1.trans s)
    | ok y =>
      rw [e2, bind_ok] at q
      intro u G2 H2 F2 s2 r2
      have s12 := s1.trans s2
      cases e3 : go x y with
      | none => rw [e3] at q; exact q.elim
      | some z =>
        rw [e3, Option.bind_some] at q
        refine ho G2 H2 x y z v u F1 F2 _ s2.le s2.b (r1.step0 s2) r2 e3 fun w G3 H3 F3 s3 r3 => ?_
        cases e4 : asB z with
        | none => rw [e4] at q; exact q.elim
        | some k =>
          rw [e4, ofO_some, bind_ok] at q
          obtain ⟨rfl, rfl⟩ := rp_bl r3 e4
          refine ⟨k, rfl, ?_⟩
          have s123 := s12.trans s3.emp
          cases k with
          | false => rw [if_neg (by decide)] at q ⊢; exact q _ G3 H3 Emp s123 (.sh' (.bl _))
          | true =>
            rw [if_pos rfl] at q ⊢
            refine hc _ _ ⟨G3, Fs, ((S.step0 s1).step0 s2).step0 s3, ?_⟩
            cases e5 : h env with
            | stk => rw [e5] at q; exact q
            | exc c u => rw [e5] at q; exact fun G' H' s => q G' H' (s123.trans s)
            | ok t =>
              rw [e5, bind_ok] at q
              intro w4 G4 H4 F4 s4 r4
              cases e6 : go' y t with
              | none => rw [e6] at q; exact q.elim
              | some z' =>
                rw [e6] at q
                exact ho' G4 H4 y t z' u w4 F2 F4 Q s4.le s4.b ((r2.step0 s3).step0 s4) r4 e6 fun w' G' H' F' s r => q w' G' H' F' ((s123.trans s4).trans s) r
theorem SV_chain {op op' : CmpOp} {r r' : R2} {go go' : O → O → Option O} {f g h : En → RP} {a b c : Expr} {pos : Pos} (hr : OpR X (compareOp op) r) (ho : Op2 W r go) (hr' : OpR X (compareOp op') r') (ho' : Op2 W r' go') (ha : SP X W Wx f a) (hb : SP X W Wx g b) (hc : SP X W Wx h c)
    (hm : lastMarks [op, op'] [b, c] = false := by with_unfolding_all rfl) : SV X W Wx (bChain go go' f g h) (.Compare a [op, op'] [b, c] pos) := fun env => (pe_chain hr hr' (ha env) (hb env) (hc env) hm).imp fun σ H Q q => chain_core ho ho' (fun _ h => h) (fun _ _ h => h) (fun _ _ h => h) q
theorem ST_chain {op op' : CmpOp} {r r' : R2} {go go' : O → O → Option O} {f g h : En → RP} {a b c : Expr} {pos : Pos} (hr : OpR X (compareOp op) r) (ho : Op2 W r go) (hr' : OpR X (compareOp op') r') (ho' : Op2 W r' go') (ha : SP X W Wx f a) (hb : SP X W Wx g b) (hc : SP X W Wx h c)
    (hm : lastMarks [op, op'] [b, c] = false := by with_unfolding_all rfl) : ST X W Wx (bT (bChain go go' f g h)) (.Compare a [op, op'] [b, c] pos) := fun env => (pt_chain hr hr' (ha env) (hb env) (hc env) hm).imp fun σ H Q q => by
  refine chain_core ho ho' (fun _ h => h) (fun _ _ h => h) (fun _ _ h => h) ?_
  obtain ⟨G, Fs, S, q⟩ := q
  refine ⟨G, Fs, S, ?_⟩
  unfold bT at q
  cases e1 : bChain go go' f g h env with
  | stk => rw [e1] at q; exact q
  | exc c u => rw [e1] at q; exact q
  | ok x =>
    rw [e1, bind_ok] at q
    intro v G1 H1 F1 s1 r1
    cases e2 : asB x with
    | none => rw [e2] at q; exact q.elim
    | some b =>
      rw [e2] at q
      obtain ⟨rfl, rfl⟩ := rp_bl r1 e2
      exact ⟨b, rfl, q G1 H1 s1.emp⟩
/-! ### a, b = v (not by exchange) -/
def sAsgG (tgt : D → En → Option En) (f : En → RE) : En → RS := fun env => match f env with
  | .ok (.sh d, e) => match tgt d e with
    | some e' => .nx e'
    | none => .stk
  | .ok _ => .stk
  | .exc c e => .exc c e
  | .stk => .stk
theorem SS_asgG {tgt : D → En → Option En} {f : En → RE} {tg e : Expr} {pos : Pos} (hf : SE X W Wx f e) (hg : SG X W pr tgt tg) (hs : swapsWithSole [tg] e pos.line X.env = pure false := by rfl) (hw : swappedStores [tg] e X.env = pure none := by rfl)
    (h1 : (assignEach [tg] X.env).map (·.2) = [assign tg X.env] := by rfl) : SS X W Wx pr (sAsgG tgt f) (.Assign [tg] e pos) := fun env => (ps_asg (hf env) hg.pg hs hw h1).imp fun D σ H => by
  rintro ⟨G, Fs, S, q⟩
  refine ⟨G, Fs, S, ?_⟩
  unfold sAsgG at q
  cases e1 : f env with
  | stk => rw [e1] at q; exact q
  | exc c u => rw [e1] at q; exact fun G' H' Fs' s S' => q σ G' H' Fs' s S' (Pr.refl _ _)
  | ok pp =>
    obtain ⟨y, e2⟩ := pp
    rw [e1] at q
    intro v G1 H1 F1 Fs1 s1 r1 S1 d1
    cases y with
    | sh d =>
      dsimp only at q
      cases e3 : tgt d e2 with
      | none => rw [e3] at q; exact q.elim
      | some e4 =>
        rw [e3] at q
        refine ⟨G1, e2, e4, Fs1, d, S1, rp_sh r1, e3, fun σ' Fs' S' sub p => ?_⟩
        exact q σ' G1 H1 Fs' (s1.wide (fun _ h => h) fun a h => .inr (.inr (sub a h))) S' p
    | _ => exact q.elim
/-! ### slices behind an effect -/
def eSl (f : En → RE) (l h : En → R Unit (Option Int)) : En → RE := fun env => (f env).bind fun p => match l p.2 with
  | .ok a => match h p.2 with
    | .ok b => match oSl p.1 a b with
      | some z => .ok (z, p.2)
      | none => .stk
    | .exc c _ => .exc c p.2
    | .stk => .stk
  | .exc c _ => .exc c p.2
  | .stk => .stk
theorem PO_any {α : Type} {e : Option Expr} {t : α → TO} (h : ∀ a, PO X e (t a)) : PO X e (fun σ H Q => ∃ a, t a σ H Q) := ⟨fun pins s σ H Q I ⟨a, q⟩ => (h a).run pins s σ H Q I q⟩
theorem SE_slice {f : En → RE} {l h : En → R Unit (Option Int)} {e : Expr} {lo hi : Option Expr} {pos p2 : Pos} (he : SE X W Wx f e) (hl : SO X W Wx l lo) (hh : SO X W Wx h hi) : SE X W Wx (eSl f l h) (.Subscript e (.Slice lo hi none p2) pos) := fun env =>
  (pe_slice (r := rSl2 X.K) (SlR.or sl_list sl_tupA) (he env) (PO_any hl) (PO_any hh)).imp fun σ H Q => by
    rintro ⟨G, Fs, S, q⟩
    refine ⟨G, Fs, S, ?_⟩
    unfold eSl at q
    cases e1 : f env with
    | stk => rw [e1] at q; exact q
    | exc c u => rw [e1] at q; exact q
    | ok pp =>
      obtain ⟨x, e2⟩ := pp
      rw [e1, bind_ok] at q
      intro v G1 H1 F1 Fs1 s1 r1 S1 d1
      refine ⟨e2, G1, Fs1, S1, ?_⟩
      dsimp only at q
      have s1' := s1.wide (F1' := All Fs1) (fun _ h => h) fun a h => .inr (.inr h)
      cases e3 : l e2 with
      | stk => rw [e3] at q; exact q
      | exc c u => rw [e3] at q; exact fun G' H' s => q G' H' Fs1 (s1'.trans s.all) (S1.step0 s)
      | ok a =>
        rw [e3] at q
        intro G2 H2 s2
        refine ⟨e2, G2, Fs1, S1.step0 s2, ?_⟩
        dsimp only at q
        cases e4 : h e2 with
        | stk => rw [e4] at q; exact q
        | exc c u => rw [e4] at q; exact fun G' H' s => q G' H' Fs1 ((s1'.trans s2.all).trans s.all) ((S1.step0 s2).step0 s)
        | ok b =>
          rw [e4] at q
          intro G3 H3 s3
          dsimp only at q
          cases e5 : oSl x a b with
          | none => rw [e5] at q; exact q.elim
          | some z =>
            rw [e5] at q
            refine oSl_ok s3.le s3.b ((r1.step0 s2).step0 s3) e5 fun w G' H' F' s r => ?_
            have st3 : Step W G H (All Fs) G3 H3 (fun a => Emp a ∨ All Fs1 a) := ((s1'.trans s2.all).trans s3.all).wide (fun _ h => h) fun a h => h.elim False.elim .inr
            obtain ⟨a1, a2, a3⟩ := own_after ((S1.step0 s2).step0 s3) s st3
            exact q w G' H' F' Fs1 a1 r a2 a3
/-- the lower bound an effect, the whole shared -/
def eSlLo (f : En → RP) (l : En → RE) : En → RE := fun env => match f env with
  | .ok (.sh d) => (l env).bind fun p => match (asI p.1).bind fun i => oSl (.sh d) (some i) none with
    | some z => .ok (z, p.2)
    | none => .stk
  | .exc c _ => .exc c env
  | _ => .stk
theorem SE_sliceLo {f : En → RP} {l : En → RE} {e lo : Expr} {pos p2 : Pos} (he : SP X W Wx f e) (hl : SE X W Wx l lo) : SE X W Wx (eSlLo f l) (.Subscript e (.Slice (some lo) none none p2) pos) := fun env =>
  (pe_slice (r := rSl2 X.K) (SlR.or sl_list sl_tupA) (he env) (po_some (PE_any hl)) po_none).imp fun σ H Q => by
    rintro ⟨G, Fs, S, q⟩
    refine ⟨G, Fs, S, ?_⟩
    unfold eSlLo at q
    cases e1 : f env with
    | stk => rw [e1] at q; exact q
    | exc c u => rw [e1] at q; exact fun G' H' s => q G' H' Fs s.all (S.step0 s)
    | ok x =>
      rw [e1] at q
      intro v G1 H1 F1 s1 r1
      cases x with
      | sh d =>
        dsimp only at q
        have S1 := S.step0 s1
        refine ⟨env, G1, Fs, S1, ?_⟩
        cases e2 : l env with
        | stk => rw [e2] at q; exact q
        | exc c u => rw [e2] at q; exact fun G' H' Fs' s S' => q G' H' Fs' (s1.all.trans s) S'
        | ok pp =>
          obtain ⟨y, e3⟩ := pp
          rw [e2, bind_ok] at q
          intro u G2 H2 F2 Fs2 s2 r2 S2 d2
          dsimp only at q
          cases e4 : asI y with
          | none => rw [e4] at q; exact q.elim
          | some i =>
            rw [e4, Option.bind_some] at q
            rw [asI_some e4] at r2
            refine ⟨i, rp_int r2, ?_⟩
            cases e5 : oSl (.sh d) (some i) none with
            | none => rw [e5] at q; exact q.elim
            | some z =>
              rw [e5] at q
              refine oSl_ok (F1 := Emp) s2.le s2.b (.sh' ((rp_sh r1).sub s2.g)) e5 fun w G' H' F' s r => ?_
              obtain ⟨a1, a2, a3⟩ := own_after S2 s (s1.all.trans s2)
              exact q w G' H' F' Fs2 a1 r a2 a3
      | _ => exact q.elim
/-! ### a for over a new list of owned things -/
def forO (i : Nat) (body : En → RS) : List O → En → RS
  | [], env => .nx env
  | x :: xs, env => match body (env.set i (some x)) with
    | .nx e => forO i body xs e
    | .ct e => forO i body xs e
    | .bk e => .nx e
    | r => r
def sForO (f : En → RE) (i : Nat) (body : En → RS) : En → RS := fun env => match f env with
  | .ok (.lst xs, e) => forO i body xs e
  | .ok _ => .stk
  | .exc c e => .exc c e
  | .stk => .stk
theorem SS_forO (i : Nat) {x : Str} {iter : Expr} {a : List Stmt} {f : En → RE} {g : En → RS} {tpos pos : Pos} (hp : PassesOwn (model X.prog X.w) X.A X.env X.xe) (hc : X.calm = true) (hN : X.N.Nodup) (hf : SE X W Wx f iter) (ha : SSs X W Wx pr g a) (hpi : i ∉ pr := by decide) (hi : X.N[i]? = some x := by rfl) (hx : Loc X.env.scope x := by first | exact .inl rfl | exact .inr rfl)
    (hfn : X.fn x = true ∨ X.env.scope.names.lookup x = some .local := by first | exact .inl rfl | exact .inr rfl) (hs : ∀ x, foldedSetIterable iter X.env x = pure x := by intro _; rfl) : SS X W Wx pr (sForO f i g) (.For (.Name x tpos) iter a [] pos) := fun env => by
  refine (ps_for hp hc (pi_seq (hf env)) (pg_name hN hi hx hfn) ha.any hs).imp fun D σ H q => ?_
  rw [tS_iff] at q
  obtain ⟨G, Fs, S, q⟩ := q
  refine ⟨G, Fs, S, ?_⟩
  unfold sForO at q
  cases e1 : f env with
  | stk => rw [e1] at q; exact q
  | exc c e => rw [e1] at q; exact fun G' H' Fs' s S' => q σ G' H' Fs' s S' (Pr.refl _ _)
  | ok pp =>
    obtain ⟨y, e⟩ := pp
    rw [e1] at q
    intro v G1 H1 F1 Fs1 s1 r1 S1 d1
    cases y with
    | lst xs =>
      cases r1 with
      | @lst _ p vs _ Fa g1 h1 l1 k1 dj1 bd1 hF1 =>
        dsimp only at q
        refine ⟨p, rfl, .inl ⟨⟨vs, SqL.of h1⟩, ?_⟩⟩
        have q1 := q.step s1 (Pr.refl _ _)
        have w : Walk (Itl X.K p) xs.length (fun H => SqL X.K H p vs) (YAt vs) := by rw [l1]; exact walk_list
        refine for_it (g := gName i) (tb := fun D σ H => ∃ env, tS W Wx pr env (g env) D σ H) (D := D) w (fun k σ' H' => ∃ env' G' Fs', G' p = none ∧ H' p = some (.lst vs) ∧ Sim W G' env' σ' H' Fs' ∧ (∀ j a, Fs' j a → a ≠ p ∧ ∀ m, k ≤ m → ¬ Fa m a) ∧
          (∀ (m : Nat) (d : O) (v : V), k ≤ m → xs[m]? = some d → vs[m]? = some v → RpO W.C G' H' d v (Fa m)) ∧ qS W Wx pr (forO i g (xs.drop k) env') D G' σ' H' (fun a => (a = p ∨ ∃ m, k ≤ m ∧ Fa m a) ∨ All Fs' a)) ?_ ?_ ?_ ?_
        · refine ⟨e, G1, Fs1, g1, h1, S1, fun j a h => ⟨fun e => d1 j a ((hF1 a).mpr (.inl e)) h, fun m _ h2 => d1 j a ((hF1 a).mpr (.inr ⟨m, h2⟩)) h⟩, fun m d v _ h2 h3 => k1 m d v h2 h3, ?_⟩
          exact q1.step (Step.refl' S1.le S1.tb (fun a h => h.imp (fun h => (hF1 a).mpr (h.imp id fun ⟨m, _, h⟩ => ⟨m, h⟩)) id)) (Pr.refl _ _)
        · rintro k σ' H' hk ⟨env', G', Fs', gp, hp', _⟩
          exact SqL.of hp'
        · rintro k x σ' H' H2 hk ⟨env', G', Fs', gp, hp', S', dj', rr, q'⟩ ⟨rfl, hx⟩
          have hdr : xs.drop k = xs[k] :: xs.drop (k + 1) := List.drop_eq_getElem_cons hk
          rw [hdr] at q'
          unfold forO at q'
          have rk := rr k xs[k] x (Nat.le_refl _) (List.getElem?_eq_getElem hk) hx
          have S2 := S'.set (i := i) rk fun j a h h2 => (dj' j a h2).2 k (Nat.le_refl _) h
          refine ⟨env'.set i (some xs[k]), G', _, S2, ?_⟩
          have q2 := q'.step (σ' := σ'.set i (some x)) (F' := fun a => (a = p ∨ ∃ m, k + 1 ≤ m ∧ Fa m a) ∨ All (fun j => if j = i then Fa k else Fs' j) a) (Step.refl' S'.le S'.tb fun a h => by
            rcases h with (h | ⟨m, h, h2⟩) | h
            · exact .inl (.inl h)
            · exact .inl (.inr ⟨m, by omega, h2⟩)
            · rcases all_set a h with h | h
              · exact .inl (.inr ⟨k, Nat.le_refl _, h⟩)
              · exact .inr h) (Pr.set hpi)
          have hidden : ∀ {G4 H4 : Hp} {Fs4 : Nat → Fp}, Step W G' H2 (All (fun j => if j = i then Fa k else Fs' j)) G4 H4 (All Fs4) → G4 p = none ∧ H4 p = some (.lst vs) ∧ (∀ j a, Fs4 j a → a ≠ p ∧ ∀ m, k + 1 ≤ m → ¬ Fa m a) ∧ (∀ (m : Nat) (d : O) (v : V), k + 1 ≤ m → xs[m]? = some d → vs[m]? = some v → RpO W.C G4 H4 d v (Fa m)) ∧
              Step W G' H2 (fun a => (a = p ∨ ∃ m, k + 1 ≤ m ∧ Fa m a) ∨ All (fun j => if j = i then Fa k else Fs' j) a) G4 H4 (fun a => (a = p ∨ ∃ m, k + 1 ≤ m ∧ Fa m a) ∨ All Fs4 a) := fun {G4 H4 Fs4} s4 => by
            have np : ¬ All (fun j => if j = i then Fa k else Fs' j) p := fun h => by
              rcases all_set p h with h | ⟨j, h⟩
              · exact (bd1 k p h).2 rfl
              · exact (dj' j p h).1 rfl
            have nm : ∀ m, k + 1 ≤ m → ∀ a, Fa m a → ¬ All (fun j => if j = i then Fa k else Fs' j) a := fun m hm a ha h => by
              rcases all_set a h with h | ⟨j, h⟩
              · exact dj1 m k a (by omega) ha h
              · exact (dj' j a h).2 m (by omega) ha
            have g4 : G4 p = none := by
              cases hq : G4 p with
              | none => rfl
              | some u =>
                rcases s4.n p (by rw [hq]; simp) with z | z | z
                · exact absurd gp z
                · exact absurd z np
                · rw [hp'] at z; cases z
            refine ⟨g4, s4.h p _ hp' np (fun ps e => by cases e), fun j a h => ⟨fun e => ?_, fun m hm h2 => ?_⟩, fun m d v hm h2 h3 => (rr m d v (by omega) h2 h3).step s4 (nm m hm), s4.wide (fun _ h => .inr h) fun a h => h.elim (fun h => .inl (.inl h)) .inr⟩
            · subst e
              rcases s4.f a ⟨j, h⟩ with z | z
              · exact np z
              · rw [hp'] at z; cases z
            · rcases s4.f a ⟨j, h⟩ with z | z
              · exact nm m hm a h2 z
              · have hm3 := (bd1 m a h2).1
                obtain ⟨_, o, h5, _⟩ := (rr m _ _ (by omega) (List.getElem?_eq_getElem hm3) (List.getElem?_eq_getElem (by rw [← l1]; exact hm3))).own a h2
                rw [h5] at z; cases z
          cases e4 : g (env'.set i (some xs[k])) with
          | stk => rw [e4] at q2; exact q2
          | nx e' =>
            rw [e4] at q2
            intro σ4 G4 H4 Fs4 s4 S4 p4
            obtain ⟨a1, a2, a3, a4, a5⟩ := hidden s4
            exact ⟨e', G4, Fs4, a1, a2, S4, a3, a4, q2.step a5 p4⟩
          | ct e' =>
            rw [e4] at q2
            intro σ4 G4 H4 Fs4 s4 S4 p4
            obtain ⟨a1, a2, a3, a4, a5⟩ := hidden s4
            exact ⟨e', G4, Fs4, a1, a2, S4, a3, a4, q2.step a5 p4⟩
          | bk e' =>
            rw [e4] at q2
            intro σ4 G4 H4 Fs4 s4 S4 p4
            exact q2 σ4 G4 H4 Fs4 (s4.wide (fun _ h => .inr h) fun a h => .inr h) S4 p4
          | rt d' e' =>
            rw [e4] at q2
            intro v4 σ4 G4 H4 F4 Fs4 s4 r4 S4 d4 p4
            exact q2 v4 σ4 G4 H4 F4 Fs4 (s4.wide (fun _ h => .inr h) fun a h => .inr h) r4 S4 d4 p4
          | exc c e' =>
            rw [e4] at q2
            intro σ4 G4 H4 Fs4 s4 S4 p4
            exact q2 σ4 G4 H4 Fs4 (s4.wide (fun _ h => .inr h) fun a h => .inr h) S4 p4
        · rintro σ' H' ⟨env', G', Fs', gp, hp', S', dj', rr, q'⟩
          rw [List.drop_length] at q'
          exact q' σ' G' H' Fs' (Step.refl' S'.le S'.tb fun a h => .inr h) S' (Pr.refl _ _)
    | _ => exact q.elim
end
end
end FD


set_option Elab.async false
set_option linter.all false
set_option maxRecDepth 100000
/-! F19: what a slot owns handed on, or laid to what is never changed. -/
namespace FD
noncomputable section
open PySem PySem.Spec L2
section
variable {X : Cx} {W : Wd} {Wx : WX} {pr : List Nat} {G G' H H' : Hp} {env env' : En} {σ σ' : St} {Fs Fs' : Nat → Fp} {F F' : Fp}
def eMove (i : Nat) : En → RE := fun env => match gt env i with
  | some d => .ok (d, env.set i none)
  | none => .stk
theorem SE_move (i : Nat) {x : Str} {pos : Pos} (hN : X.N[i]? = some x := by rfl) (hv : Vis X.env.scope x := by first | exact Or.inl rfl | exact Or.inr (Or.inl rfl) | exact Or.inr (Or.inr rfl)) (hd : (x == ("__debug__" : Str)) = false := by decide)
    (hcd : (x == ("__classdict__" : Str)) = false := by decide) : SE X W Wx (eMove i) (.Name x pos) := fun env => (pe_var hN hv hd hcd).imp fun σ H Q => by
  rintro ⟨G, Fs, S, q⟩
  unfold eMove at q
  cases e1 : gt env i with
  | none => rw [e1] at q; exact q.elim
  | some d =>
    rw [e1] at q
    obtain ⟨v, h1, r1⟩ := S.rp i d (gt_some e1)
    refine ⟨v, h1, q v G H (Fs i) _ (S.refl.wide (fun _ h => h) fun a h => .inl ?_) r1 (S.lend i) fun j a q1 q2 => ?_⟩
    · rcases h with h | h
      · exact ⟨i, h⟩
      · exact all_lend a h
    · by_cases hj : j = i
      · simp only [hj, if_true] at q2; exact q2
      · simp only [hj, if_false] at q2; exact S.dj i j a (fun e => hj e.symm) q1 q2
def eFrzV (i : Nat) : En → RE := fun env => match gt env i with
  | some d => .ok (.sh d.frz, env.set i (some (.sh d.frz)))
  | none => .stk
theorem SE_frzV (i : Nat) {x : Str} {pos : Pos} (hN : X.N[i]? = some x := by rfl) (hv : Vis X.env.scope x := by first | exact Or.inl rfl | exact Or.inr (Or.inl rfl) | exact Or.inr (Or.inr rfl)) (hd : (x == ("__debug__" : Str)) = false := by decide)
    (hcd : (x == ("__classdict__" : Str)) = false := by decide) : SE X W Wx (eFrzV i) (.Name x pos) := fun env => (pe_var hN hv hd hcd).imp fun σ H Q => by
  rintro ⟨G, Fs, S, q⟩
  unfold eFrzV at q
  cases e1 : gt env i with
  | none => rw [e1] at q; exact q.elim
  | some d =>
    rw [e1] at q
    obtain ⟨v, h1, r1⟩ := S.rp i d (gt_some e1)
    have S1 := S.lend i
    have s0 : Step W G H (All Fs) G H (fun a => Fs i a ∨ All (fun j => if j = i then Emp else Fs j) a) := S.refl.wide (fun _ h => h) fun a h => .inl (by
      rcases h with h | h
      · exact ⟨i, h⟩
      · exact all_lend a h)
    obtain ⟨s1, sb, rd⟩ := addG_step s0 r1
    have S2 := S1.addG (F1 := Fs i) fun j a q1 q2 => by
      by_cases hj : j = i
      · simp only [hj, if_true] at q2; exact q2
      · simp only [hj, if_false] at q2; exact S.dj i j a (fun e => hj e.symm) q1 q2
    have S3 := S2.set (i := i) (.sh' rd) fun _ _ h => h.elim
    rw [set_self h1, List.set_set] at S3
    refine ⟨v, h1, q v _ H Emp _ (s1.wide (fun _ h => h) fun a h => ?_) (.sh' rd) S3 fun _ _ h => h.elim⟩
    rcases h with h | h
    · exact h.elim
    · rcases all_set a h with h | h
      · exact h.elim
      · exact .inr h
end
end
end FD


set_option Elab.async false
set_option linter.all false
set_option maxRecDepth 100000
/-! F20: the operators and built-ins, each by its name (printed by mkF20.py). -/
namespace FD
noncomputable section
open PySem PySem.Spec L2
section
variable {X : Cx} {W : Wd} {Wx : WX} {pr : List Nat}
def bAsSh (f : En → RP) : En → RP := fun env => (f env).bind fun x => ofO (asSh x)
theorem SV_asSh {f : En → RP} {e : Expr} (h : SP X W Wx f e) : SV X W Wx (bAsSh f) e := fun env => (h env).imp fun σ H Q => by
  rintro ⟨G, Fs, S, q⟩
  refine ⟨G, Fs, S, ?_⟩
  unfold bAsSh at q
  cases e1 : f env with
  | stk => rw [e1] at q; exact q
  | exc c u => rw [e1] at q; exact q
  | ok x =>
    rw [e1, bind_ok] at q
    intro v G1 H1 F1 s1 r1
    cases x with
    | sh d => exact q v G1 H1 Emp s1 (.sh' (rp_sh r1))
    | _ => exact q.elim
def oNeg (x : O) : Option O := (asI x).bind fun i => some (.sh (.int (-i)))
theorem SV_neg {f : En → RP} {a : Expr} {pos : Pos} (ha : SP X W Wx f a) : SV X W Wx (b1 oNeg f) (.UnaryOp .USub a pos) := SV_un un_neg (fun G H x z v F1 Q le b r e q => by
  unfold oNeg at e
  cases e1 : asI x with
  | none => rw [e1] at e; cases e
  | some i =>
    rw [e1] at e
    cases e
    rw [asI_some e1] at r
    exact ⟨i, rp_int r, q _ G H Emp (Step.refl le b) (.sh' (.int _))⟩) ha

theorem SV_plus {f g : En → RP} {a b : Expr} {pos : Pos} (ha : SP X W Wx f a) (hb : SP X W Wx g b) : SV X W Wx (b2 oPlus f g) (.BinOp a .Add b pos) := SV_op (v_plus (W := W)).1 (v_plus (X := X)).2 ha hb
theorem SE_plus {f g : En → RE} {a b : Expr} {pos : Pos} (ha : SE X W Wx f a) (hb : SE X W Wx g b) : SE X W Wx (eOp2 oPlus f g) (.BinOp a .Add b pos) := SE_op (v_plus (W := W)).1 (v_plus (X := X)).2 ha hb

theorem SV_sub {f g : En → RP} {a b : Expr} {pos : Pos} (ha : SP X W Wx f a) (hb : SP X W Wx g b) : SV X W Wx (b2 oSub f g) (.BinOp a .Sub b pos) := SV_op (v_sub (W := W)).1 (v_sub (X := X)).2 ha hb
theorem SE_sub {f g : En → RE} {a b : Expr} {pos : Pos} (ha : SE X W Wx f a) (hb : SE X W Wx g b) : SE X W Wx (eOp2 oSub f g) (.BinOp a .Sub b pos) := SE_op (v_sub (W := W)).1 (v_sub (X := X)).2 ha hb

theorem SV_star {f g : En → RP} {a b : Expr} {pos : Pos} (ha : SP X W Wx f a) (hb : SP X W Wx g b) : SV X W Wx (b2 oStar f g) (.BinOp a .Mult b pos) := SV_op (v_star (W := W)).1 (v_star (X := X)).2 ha hb
theorem SE_star {f g : En → RE} {a b : Expr} {pos : Pos} (ha : SE X W Wx f a) (hb : SE X W Wx g b) : SE X W Wx (eOp2 oStar f g) (.BinOp a .Mult b pos) := SE_op (v_star (W := W)).1 (v_star (X := X)).2 ha hb

theorem SV_div {f g : En → RP} {a b : Expr} {pos : Pos} (ha : SP X W Wx f a) (hb : SP X W Wx g b) : SV X W Wx (b2 oDiv f g) (.BinOp a .FloorDiv b pos) := SV_op (v_div (W := W)).1 (v_div (X := X)).2 ha hb
theorem SE_div {f g : En → RE} {a b : Expr} {pos : Pos} (ha : SE X W Wx f a) (hb : SE X W Wx g b) : SE X W Wx (eOp2 oDiv f g) (.BinOp a .FloorDiv b pos) := SE_op (v_div (W := W)).1 (v_div (X := X)).2 ha hb

theorem SV_mod {f g : En → RP} {a b : Expr} {pos : Pos} (ha : SP X W Wx f a) (hb : SP X W Wx g b) : SV X W Wx (b2 oMod f g) (.BinOp a .Mod b pos) := SV_op (v_mod (W := W)).1 (v_mod (X := X)).2 ha hb
theorem SE_mod {f g : En → RE} {a b : Expr} {pos : Pos} (ha : SE X W Wx f a) (hb : SE X W Wx g b) : SE X W Wx (eOp2 oMod f g) (.BinOp a .Mod b pos) := SE_op (v_mod (W := W)).1 (v_mod (X := X)).2 ha hb

theorem SV_pow {f g : En → RP} {a b : Expr} {pos : Pos} (ha : SP X W Wx f a) (hb : SP X W Wx g b) : SV X W Wx (b2 oPow f g) (.BinOp a .Pow b pos) := SV_op (v_pow (W := W)).1 (v_pow (X := X)).2 ha hb
theorem SE_pow {f g : En → RE} {a b : Expr} {pos : Pos} (ha : SE X W Wx f a) (hb : SE X W Wx g b) : SE X W Wx (eOp2 oPow f g) (.BinOp a .Pow b pos) := SE_op (v_pow (W := W)).1 (v_pow (X := X)).2 ha hb

theorem SV_eq {f g : En → RP} {a b : Expr} {pos : Pos} (hu : X.A.units + 65 < cLine) (ha : SP X W Wx f a) (hb : SP X W Wx g b)  : SV X W Wx (b2 oEq f g) (.Compare a [.Eq] [b] pos) := SV_cmp (v_eq (W := W) (X := X) (by omega)).1 (v_eq (W := W) (X := X) (by omega)).2 ha hb (nomark b)
theorem ST_eq {f g : En → RP} {a b : Expr} {pos : Pos} (hu : X.A.units + 65 < cLine) (ha : SP X W Wx f a) (hb : SP X W Wx g b)  : ST X W Wx (bT (b2 oEq f g)) (.Compare a [.Eq] [b] pos) := ST_cmp (v_eq (W := W) (X := X) (by omega)).1 (v_eq (W := W) (X := X) (by omega)).2 ha hb (nomark b)
theorem SE_eq {f g : En → RE} {a b : Expr} {pos : Pos} (hu : X.A.units + 65 < cLine) (ha : SE X W Wx f a) (hb : SE X W Wx g b)  : SE X W Wx (eOp2 oEq f g) (.Compare a [.Eq] [b] pos) := SE_cmp (v_eq (W := W) (X := X) (by omega)).1 (v_eq (W := W) (X := X) (by omega)).2 ha hb (nomark b)
theorem SU_eq {f g : En → RE} {a b : Expr} {pos : Pos} (hu : X.A.units + 65 < cLine) (ha : SE X W Wx f a) (hb : SE X W Wx g b)  : SU X W Wx (uV (eOp2 oEq f g)) (.Compare a [.Eq] [b] pos) := SU_cmp (v_eq (W := W) (X := X) (by omega)).1 (v_eq (W := W) (X := X) (by omega)).2 ha hb (nomark b)

theorem SV_ne {f g : En → RP} {a b : Expr} {pos : Pos} (hu : X.A.units + 65 < cLine) (ha : SP X W Wx f a) (hb : SP X W Wx g b)  : SV X W Wx (b2 oNe f g) (.Compare a [.NotEq] [b] pos) := SV_cmp (v_ne (W := W) (X := X) (by omega)).1 (v_ne (W := W) (X := X) (by omega)).2 ha hb (nomark b)
theorem ST_ne {f g : En → RP} {a b : Expr} {pos : Pos} (hu : X.A.units + 65 < cLine) (ha : SP X W Wx f a) (hb : SP X W Wx g b)  : ST X W Wx (bT (b2 oNe f g)) (.Compare a [.NotEq] [b] pos) := ST_cmp (v_ne (W := W) (X := X) (by omega)).1 (v_ne (W := W) (X := X) (by omega)).2 ha hb (nomark b)
theorem SE_ne {f g : En → RE} {a b : Expr} {pos : Pos} (hu : X.A.units + 65 < cLine) (ha : SE X W Wx f a) (hb : SE X W Wx g b)  : SE X W Wx (eOp2 oNe f g) (.Compare a [.NotEq] [b] pos) := SE_cmp (v_ne (W := W) (X := X) (by omega)).1 (v_ne (W := W) (X := X) (by omega)).2 ha hb (nomark b)
theorem SU_ne {f g : En → RE} {a b : Expr} {pos : Pos} (hu : X.A.units + 65 < cLine) (ha : SE X W Wx f a) (hb : SE X W Wx g b)  : SU X W Wx (uV (eOp2 oNe f g)) (.Compare a [.NotEq] [b] pos) := SU_cmp (v_ne (W := W) (X := X) (by omega)).1 (v_ne (W := W) (X := X) (by omega)).2 ha hb (nomark b)

theorem SV_lt {f g : En → RP} {a b : Expr} {pos : Pos} (ha : SP X W Wx f a) (hb : SP X W Wx g b)  : SV X W Wx (b2 oLt f g) (.Compare a [.Lt] [b] pos) := SV_cmp (v_lt (W := W) (X := X) ).1 (v_lt (W := W) (X := X) ).2 ha hb (nomark b)
theorem ST_lt {f g : En → RP} {a b : Expr} {pos : Pos} (ha : SP X W Wx f a) (hb : SP X W Wx g b)  : ST X W Wx (bT (b2 oLt f g)) (.Compare a [.Lt] [b] pos) := ST_cmp (v_lt (W := W) (X := X) ).1 (v_lt (W := W) (X := X) ).2 ha hb (nomark b)
theorem SE_lt {f g : En → RE} {a b : Expr} {pos : Pos} (ha : SE X W Wx f a) (hb : SE X W Wx g b)  : SE X W Wx (eOp2 oLt f g) (.Compare a [.Lt] [b] pos) := SE_cmp (v_lt (W := W) (X := X) ).1 (v_lt (W := W) (X := X) ).2 ha hb (nomark b)
theorem SU_lt {f g : En → RE} {a b : Expr} {pos : Pos} (ha : SE X W Wx f a) (hb : SE X W Wx g b)  : SU X W Wx (uV (eOp2 oLt f g)) (.Compare a [.Lt] [b] pos) := SU_cmp (v_lt (W := W) (X := X) ).1 (v_lt (W := W) (X := X) ).2 ha hb (nomark b)

theorem SV_le {f g : En → RP} {a b : Expr} {pos : Pos} (ha : SP X W Wx f a) (hb : SP X W Wx g b)  : SV X W Wx (b2 oLe f g) (.Compare a [.LtE] [b] pos) := SV_cmp (v_le (W := W) (X := X) ).1 (v_le (W := W) (X := X) ).2 ha hb (nomark b)
theorem ST_le {f g : En → RP} {a b : Expr} {pos : Pos} (ha : SP X W Wx f a) (hb : SP X W Wx g b)  : ST X W Wx (bT (b2 oLe f g)) (.Compare a [.LtE] [b] pos) := ST_cmp (v_le (W := W) (X := X) ).1 (v_le (W := W) (X := X) ).2 ha hb (nomark b)
theorem SE_le {f g : En → RE} {a b : Expr} {pos : Pos} (ha : SE X W Wx f a) (hb : SE X W Wx g b)  : SE X W Wx (eOp2 oLe f g) (.Compare a [.LtE] [b] pos) := SE_cmp (v_le (W := W) (X := X) ).1 (v_le (W := W) (X := X) ).2 ha hb (nomark b)
theorem SU_le {f g : En → RE} {a b : Expr} {pos : Pos} (ha : SE X W Wx f a) (hb : SE X W Wx g b)  : SU X W Wx (uV (eOp2 oLe f g)) (.Compare a [.LtE] [b] pos) := SU_cmp (v_le (W := W) (X := X) ).1 (v_le (W := W) (X := X) ).2 ha hb (nomark b)

theorem SV_gt {f g : En → RP} {a b : Expr} {pos : Pos} (ha : SP X W Wx f a) (hb : SP X W Wx g b)  : SV X W Wx (b2 oGt f g) (.Compare a [.Gt] [b] pos) := SV_cmp (v_gt (W := W) (X := X) ).1 (v_gt (W := W) (X := X) ).2 ha hb (nomark b)
theorem ST_gt {f g : En → RP} {a b : Expr} {pos : Pos} (ha : SP X W Wx f a) (hb : SP X W Wx g b)  : ST X W Wx (bT (b2 oGt f g)) (.Compare a [.Gt] [b] pos) := ST_cmp (v_gt (W := W) (X := X) ).1 (v_gt (W := W) (X := X) ).2 ha hb (nomark b)
theorem SE_gt {f g : En → RE} {a b : Expr} {pos : Pos} (ha : SE X W Wx f a) (hb : SE X W Wx g b)  : SE X W Wx (eOp2 oGt f g) (.Compare a [.Gt] [b] pos) := SE_cmp (v_gt (W := W) (X := X) ).1 (v_gt (W := W) (X := X) ).2 ha hb (nomark b)
theorem SU_gt {f g : En → RE} {a b : Expr} {pos : Pos} (ha : SE X W Wx f a) (hb : SE X W Wx g b)  : SU X W Wx (uV (eOp2 oGt f g)) (.Compare a [.Gt] [b] pos) := SU_cmp (v_gt (W := W) (X := X) ).1 (v_gt (W := W) (X := X) ).2 ha hb (nomark b)

theorem SV_ge {f g : En → RP} {a b : Expr} {pos : Pos} (ha : SP X W Wx f a) (hb : SP X W Wx g b)  : SV X W Wx (b2 oGe f g) (.Compare a [.GtE] [b] pos) := SV_cmp (v_ge (W := W) (X := X) ).1 (v_ge (W := W) (X := X) ).2 ha hb (nomark b)
theorem ST_ge {f g : En → RP} {a b : Expr} {pos : Pos} (ha : SP X W Wx f a) (hb : SP X W Wx g b)  : ST X W Wx (bT (b2 oGe f g)) (.Compare a [.GtE] [b] pos) := ST_cmp (v_ge (W := W) (X := X) ).1 (v_ge (W := W) (X := X) ).2 ha hb (nomark b)
theorem SE_ge {f g : En → RE} {a b : Expr} {pos : Pos} (ha : SE X W Wx f a) (hb : SE X W Wx g b)  : SE X W Wx (eOp2 oGe f g) (.Compare a [.GtE] [b] pos) := SE_cmp (v_ge (W := W) (X := X) ).1 (v_ge (W := W) (X := X) ).2 ha hb (nomark b)
theorem SU_ge {f g : En → RE} {a b : Expr} {pos : Pos} (ha : SE X W Wx f a) (hb : SE X W Wx g b)  : SU X W Wx (uV (eOp2 oGe f g)) (.Compare a [.GtE] [b] pos) := SU_cmp (v_ge (W := W) (X := X) ).1 (v_ge (W := W) (X := X) ).2 ha hb (nomark b)

theorem SV_in {f g : En → RP} {a b : Expr} {pos : Pos} (hu : X.A.units + 65 < cLine) (ha : SP X W Wx f a) (hb : SP X W Wx g b) (hm : behindInMarks .In b = false := by rfl) : SV X W Wx (b2 oIn f g) (.Compare a [.In] [b] pos) := SV_cmp (v_in (W := W) (X := X) hu).1 (v_in (W := W) (X := X) hu).2 ha hb hm
theorem ST_in {f g : En → RP} {a b : Expr} {pos : Pos} (hu : X.A.units + 65 < cLine) (ha : SP X W Wx f a) (hb : SP X W Wx g b) (hm : behindInMarks .In b = false := by rfl) : ST X W Wx (bT (b2 oIn f g)) (.Compare a [.In] [b] pos) := ST_cmp (v_in (W := W) (X := X) hu).1 (v_in (W := W) (X := X) hu).2 ha hb hm
theorem SE_in {f g : En → RE} {a b : Expr} {pos : Pos} (hu : X.A.units + 65 < cLine) (ha : SE X W Wx f a) (hb : SE X W Wx g b) (hm : behindInMarks .In b = false := by rfl) : SE X W Wx (eOp2 oIn f g) (.Compare a [.In] [b] pos) := SE_cmp (v_in (W := W) (X := X) hu).1 (v_in (W := W) (X := X) hu).2 ha hb hm
theorem SU_in {f g : En → RE} {a b : Expr} {pos : Pos} (hu : X.A.units + 65 < cLine) (ha : SE X W Wx f a) (hb : SE X W Wx g b) (hm : behindInMarks .In b = false := by rfl) : SU X W Wx (uV (eOp2 oIn f g)) (.Compare a [.In] [b] pos) := SU_cmp (v_in (W := W) (X := X) hu).1 (v_in (W := W) (X := X) hu).2 ha hb hm

theorem SV_notIn {f g : En → RP} {a b : Expr} {pos : Pos} (hu : X.A.units + 65 < cLine) (ha : SP X W Wx f a) (hb : SP X W Wx g b) (hm : behindInMarks .NotIn b = false := by rfl) : SV X W Wx (b2 oNotIn f g) (.Compare a [.NotIn] [b] pos) := SV_cmp (v_notIn (W := W) (X := X) hu).1 (v_notIn (W := W) (X := X) hu).2 ha hb hm
theorem ST_notIn {f g : En → RP} {a b : Expr} {pos : Pos} (hu : X.A.units + 65 < cLine) (ha : SP X W Wx f a) (hb : SP X W Wx g b) (hm : behindInMarks .NotIn b = false := by rfl) : ST X W Wx (bT (b2 oNotIn f g)) (.Compare a [.NotIn] [b] pos) := ST_cmp (v_notIn (W := W) (X := X) hu).1 (v_notIn (W := W) (X := X) hu).2 ha hb hm
theorem SE_notIn {f g : En → RE} {a b : Expr} {pos : Pos} (hu : X.A.units + 65 < cLine) (ha : SE X W Wx f a) (hb : SE X W Wx g b) (hm : behindInMarks .NotIn b = false := by rfl) : SE X W Wx (eOp2 oNotIn f g) (.Compare a [.NotIn] [b] pos) := SE_cmp (v_notIn (W := W) (X := X) hu).1 (v_notIn (W := W) (X := X) hu).2 ha hb hm
theorem SU_notIn {f g : En → RE} {a b : Expr} {pos : Pos} (hu : X.A.units + 65 < cLine) (ha : SE X W Wx f a) (hb : SE X W Wx g b) (hm : behindInMarks .NotIn b = false := by rfl) : SU X W Wx (uV (eOp2 oNotIn f g)) (.Compare a [.NotIn] [b] pos) := SU_cmp (v_notIn (W := W) (X := X) hu).1 (v_notIn (W := W) (X := X) hu).2 ha hb hm

theorem SV_is {f g : En → RP} {a b : Expr} {pos : Pos} (ha : SP X W Wx f a) (hb : SP X W Wx g b)  : SV X W Wx (b2 oIs f g) (.Compare a [.Is] [b] pos) := SV_cmp (v_is (W := W) (X := X) ).1 (v_is (W := W) (X := X) ).2 ha hb (nomark b)
theorem ST_is {f g : En → RP} {a b : Expr} {pos : Pos} (ha : SP X W Wx f a) (hb : SP X W Wx g b)  : ST X W Wx (bT (b2 oIs f g)) (.Compare a [.Is] [b] pos) := ST_cmp (v_is (W := W) (X := X) ).1 (v_is (W := W) (X := X) ).2 ha hb (nomark b)
theorem SE_is {f g : En → RE} {a b : Expr} {pos : Pos} (ha : SE X W Wx f a) (hb : SE X W Wx g b)  : SE X W Wx (eOp2 oIs f g) (.Compare a [.Is] [b] pos) := SE_cmp (v_is (W := W) (X := X) ).1 (v_is (W := W) (X := X) ).2 ha hb (nomark b)
theorem SU_is {f g : En → RE} {a b : Expr} {pos : Pos} (ha : SE X W Wx f a) (hb : SE X W Wx g b)  : SU X W Wx (uV (eOp2 oIs f g)) (.Compare a [.Is] [b] pos) := SU_cmp (v_is (W := W) (X := X) ).1 (v_is (W := W) (X := X) ).2 ha hb (nomark b)

theorem SV_isNot {f g : En → RP} {a b : Expr} {pos : Pos} (ha : SP X W Wx f a) (hb : SP X W Wx g b)  : SV X W Wx (b2 oIsNot f g) (.Compare a [.IsNot] [b] pos) := SV_cmp (v_isNot (W := W) (X := X) ).1 (v_isNot (W := W) (X := X) ).2 ha hb (nomark b)
theorem ST_isNot {f g : En → RP} {a b : Expr} {pos : Pos} (ha : SP X W Wx f a) (hb : SP X W Wx g b)  : ST X W Wx (bT (b2 oIsNot f g)) (.Compare a [.IsNot] [b] pos) := ST_cmp (v_isNot (W := W) (X := X) ).1 (v_isNot (W := W) (X := X) ).2 ha hb (nomark b)
theorem SE_isNot {f g : En → RE} {a b : Expr} {pos : Pos} (ha : SE X W Wx f a) (hb : SE X W Wx g b)  : SE X W Wx (eOp2 oIsNot f g) (.Compare a [.IsNot] [b] pos) := SE_cmp (v_isNot (W := W) (X := X) ).1 (v_isNot (W := W) (X := X) ).2 ha hb (nomark b)
theorem SU_isNot {f g : En → RE} {a b : Expr} {pos : Pos} (ha : SE X W Wx f a) (hb : SE X W Wx g b)  : SU X W Wx (uV (eOp2 oIsNot f g)) (.Compare a [.IsNot] [b] pos) := SU_cmp (v_isNot (W := W) (X := X) ).1 (v_isNot (W := W) (X := X) ).2 ha hb (nomark b)

theorem SV_lt_lt {f g h : En → RP} {a b c : Expr} {pos : Pos} (ha : SP X W Wx f a) (hb : SP X W Wx g b) (hc : SP X W Wx h c) (hm : lastMarks [.Lt, .Lt] [b, c] = false := by with_unfolding_all rfl) : SV X W Wx (bChain oLt oLt f g h) (.Compare a [.Lt, .Lt] [b, c] pos) := SV_chain (v_lt (W := W)).1 (v_lt (X := X)).2 (v_lt (W := W)).1 (v_lt (X := X)).2 ha hb hc hm
theorem ST_lt_lt {f g h : En → RP} {a b c : Expr} {pos : Pos} (ha : SP X W Wx f a) (hb : SP X W Wx g b) (hc : SP X W Wx h c) (hm : lastMarks [.Lt, .Lt] [b, c] = false := by with_unfolding_all rfl) : ST X W Wx (bT (bChain oLt oLt f g h)) (.Compare a [.Lt, .Lt] [b, c] pos) := ST_chain (v_lt (W := W)).1 (v_lt (X := X)).2 (v_lt (W := W)).1 (v_lt (X := X)).2 ha hb hc hm

theorem SV_lt_le {f g h : En → RP} {a b c : Expr} {pos : Pos} (ha : SP X W Wx f a) (hb : SP X W Wx g b) (hc : SP X W Wx h c) (hm : lastMarks [.Lt, .LtE] [b, c] = false := by with_unfolding_all rfl) : SV X W Wx (bChain oLt oLe f g h) (.Compare a [.Lt, .LtE] [b, c] pos) := SV_chain (v_lt (W := W)).1 (v_lt (X := X)).2 (v_le (W := W)).1 (v_le (X := X)).2 ha hb hc hm
theorem ST_lt_le {f g h : En → RP} {a b c : Expr} {pos : Pos} (ha : SP X W Wx f a) (hb : SP X W Wx g b) (hc : SP X W Wx h c) (hm : lastMarks [.Lt, .LtE] [b, c] = false := by with_unfolding_all rfl) : ST X W Wx (bT (bChain oLt oLe f g h)) (.Compare a [.Lt, .LtE] [b, c] pos) := ST_chain (v_lt (W := W)).1 (v_lt (X := X)).2 (v_le (W := W)).1 (v_le (X := X)).2 ha hb hc hm

theorem SV_lt_gt {f g h : En → RP} {a b c : Expr} {pos : Pos} (ha : SP X W Wx f a) (hb : SP X W Wx g b) (hc : SP X W Wx h c) (hm : lastMarks [.Lt, .Gt] [b, c] = false := by with_unfolding_all rfl) : SV X W Wx (bChain oLt oGt f g h) (.Compare a [.Lt, .Gt] [b, c] pos) := SV_chain (v_lt (W := W)).1 (v_lt (X := X)).2 (v_gt (W := W)).1 (v_gt (X := X)).2 ha hb hc hm
theorem ST_lt_gt {f g h : En → RP} {a b c : Expr} {pos : Pos} (ha : SP X W Wx f a) (hb : SP X W Wx g b) (hc : SP X W Wx h c) (hm : lastMarks [.Lt, .Gt] [b, c] = false := by with_unfolding_all rfl) : ST X W Wx (bT (bChain oLt oGt f g h)) (.Compare a [.Lt, .Gt] [b, c] pos) := ST_chain (v_lt (W := W)).1 (v_lt (X := X)).2 (v_gt (W := W)).1 (v_gt (X := X)).2 ha hb hc hm

theorem SV_lt_ge {f g h : En → RP} {a b c : Expr} {pos : Pos} (ha : SP X W Wx f a) (hb : SP X W Wx g b) (hc : SP X W Wx h c) (hm : lastMarks [.Lt, .GtE] [b, c] = false := by with_unfolding_all rfl) : SV X W Wx (bChain oLt oGe f g h) (.Compare a [.Lt, .GtE] [b, c] pos) := SV_chain (v_lt (W := W)).1 (v_lt (X := X)).2 (v_ge (W := W)).1 (v_ge (X := X)).2 ha hb hc hm
theorem ST_lt_ge {f g h : En → RP} {a b c : Expr} {pos : Pos} (ha : SP X W Wx f a) (hb : SP X W Wx g b) (hc : SP X W Wx h c) (hm : lastMarks [.Lt, .GtE] [b, c] = false := by with_unfolding_all rfl) : ST X W Wx (bT (bChain oLt oGe f g h)) (.Compare a [.Lt, .GtE] [b, c] pos) := ST_chain (v_lt (W := W)).1 (v_lt (X := X)).2 (v_ge (W := W)).1 (v_ge (X := X)).2 ha hb hc hm

theorem SV_le_lt {f g h : En → RP} {a b c : Expr} {pos : Pos} (ha : SP X W Wx f a) (hb : SP X W Wx g b) (hc : SP X W Wx h c) (hm : lastMarks [.LtE, .Lt] [b, c] = false := by with_unfolding_all rfl) : SV X W Wx (bChain oLe oLt f g h) (.Compare a [.LtE, .Lt] [b, c] pos) := SV_chain (v_le (W := W)).1 (v_le (X := X)).2 (v_lt (W := W)).1 (v_lt (X := X)).2 ha hb hc hm
theorem ST_le_lt {f g h : En → RP} {a b c : Expr} {pos : Pos} (ha : SP X W Wx f a) (hb : SP X W Wx g b) (hc : SP X W Wx h c) (hm : lastMarks [.LtE, .Lt] [b, c] = false := by with_unfolding_all rfl) : ST X W Wx (bT (bChain oLe oLt f g h)) (.Compare a [.LtE, .Lt] [b, c] pos) := ST_chain (v_le (W := W)).1 (v_le (X := X)).2 (v_lt (W := W)).1 (v_lt (X := X)).2 ha hb hc hm

theorem SV_le_le {f g h : En → RP} {a b c : Expr} {pos : Pos} (ha : SP X W Wx f a) (hb : SP X W Wx g b) (hc : SP X W Wx h c) (hm : lastMarks [.LtE, .LtE] [b, c] = false := by with_unfolding_all rfl) : SV X W Wx (bChain oLe oLe f g h) (.Compare a [.LtE, .LtE] [b, c] pos) := SV_chain (v_le (W := W)).1 (v_le (X := X)).2 (v_le (W := W)).1 (v_le (X := X)).2 ha hb hc hm
theorem ST_le_le {f g h : En → RP} {a b c : Expr} {pos : Pos} (ha : SP X W Wx f a) (hb : SP X W Wx g b) (hc : SP X W Wx h c) (hm : lastMarks [.LtE, .LtE] [b, c] = false := by with_unfolding_all rfl) : ST X W Wx (bT (bChain oLe oLe f g h)) (.Compare a [.LtE, .LtE] [b, c] pos) := ST_chain (v_le (W := W)).1 (v_le (X := X)).2 (v_le (W := W)).1 (v_le (X := X)).2 ha hb hc hm

theorem SV_le_gt {f g h : En → RP} {a b c : Expr} {pos : Pos} (ha : SP X W Wx f a) (hb : SP X W Wx g b) (hc : SP X W Wx h c) (hm : lastMarks [.LtE, .Gt] [b, c] = false := by with_unfolding_all rfl) : SV X W Wx (bChain oLe oGt f g h) (.Compare a [.LtE, .Gt] [b, c] pos) := SV_chain (v_le (W := W)).1 (v_le (X := X)).2 (v_gt (W := W)).1 (v_gt (X := X)).2 ha hb hc hm
theorem ST_le_gt {f g h : En → RP} {a b c : Expr} {pos : Pos} (ha : SP X W Wx f a) (hb : SP X W Wx g b) (hc : SP X W Wx h c) (hm : lastMarks [.LtE, .Gt] [b, c] = false := by with_unfolding_all rfl) : ST X W Wx (bT (bChain oLe oGt f g h)) (.Compare a [.LtE, .Gt] [b, c] pos) := ST_chain (v_le (W := W)).1 (v_le (X := X)).2 (v_gt (W := W)).1 (v_gt (X := X)).2 ha hb hc hm

theorem SV_le_ge {f g h : En → RP} {a b c : Expr} {pos : Pos} (ha : SP X W Wx f a) (hb : SP X W Wx g b) (hc : SP X W Wx h c) (hm : lastMarks [.LtE, .GtE] [b, c] = false := by with_unfolding_all rfl) : SV X W Wx (bChain oLe oGe f g h) (.Compare a [.LtE, .GtE] [b, c] pos) := SV_chain (v_le (W := W)).1 (v_le (X := X)).2 (v_ge (W := W)).1 (v_ge (X := X)).2 ha hb hc hm
theorem ST_le_ge {f g h : En → RP} {a b c : Expr} {pos : Pos} (ha : SP X W Wx f a) (hb : SP X W Wx g b) (hc : SP X W Wx h c) (hm : lastMarks [.LtE, .GtE] [b, c] = false := by with_unfolding_all rfl) : ST X W Wx (bT (bChain oLe oGe f g h)) (.Compare a [.LtE, .GtE] [b, c] pos) := ST_chain (v_le (W := W)).1 (v_le (X := X)).2 (v_ge (W := W)).1 (v_ge (X := X)).2 ha hb hc hm

theorem SV_gt_lt {f g h : En → RP} {a b c : Expr} {pos : Pos} (ha : SP X W Wx f a) (hb : SP X W Wx g b) (hc : SP X W Wx h c) (hm : lastMarks [.Gt, .Lt] [b, c] = false := by with_unfolding_all rfl) : SV X W Wx (bChain oGt oLt f g h) (.Compare a [.Gt, .Lt] [b, c] pos) := SV_chain (v_gt (W := W)).1 (v_gt (X := X)).2 (v_lt (W := W)).1 (v_lt (X := X)).2 ha hb hc hm
theorem ST_gt_lt {f g h : En → RP} {a b c : Expr} {pos : Pos} (ha : SP X W Wx f a) (hb : SP X W Wx g b) (hc : SP X W Wx h c) (hm : lastMarks [.Gt, .Lt] [b, c] = false := by with_unfolding_all rfl) : ST X W Wx (bT (bChain oGt oLt f g h)) (.Compare a [.Gt, .Lt] [b, c] pos) := ST_chain (v_gt (W := W)).1 (v_gt (X := X)).2 (v_lt (W := W)).1 (v_lt (X := X)).2 ha hb hc hm

theorem SV_gt_le {f g h : En → RP} {a b c : Expr} {pos : Pos} (ha : SP X W Wx f a) (hb : SP X W Wx g b) (hc : SP X W Wx h c) (hm : lastMarks [.Gt, .LtE] [b, c] = false := by with_unfolding_all rfl) : SV X W Wx (bChain oGt oLe f g h) (.Compare a [.Gt, .LtE] [b, c] pos) := SV_chain (v_gt (W := W)).1 (v_gt (X := X)).2 (v_le (W := W)).1 (v_le (X := X)).2 ha hb hc hm
theorem ST_gt_le {f g h : En → RP} {a b c : Expr} {pos : Pos} (ha : SP X W Wx f a) (hb : SP X W Wx g b) (hc : SP X W Wx h c) (hm : lastMarks [.Gt, .LtE] [b, c] = false := by with_unfolding_all rfl) : ST X W Wx (bT (bChain oGt oLe f g h)) (.Compare a [.Gt, .LtE] [b, c] pos) := ST_chain (v_gt (W := W)).1 (v_gt (X := X)).2 (v_le (W := W)).1 (v_le (X := X)).2 ha hb hc hm

theorem SV_gt_gt {f g h : En → RP} {a b c : Expr} {pos : Pos} (ha : SP X W Wx f a) (hb : SP X W Wx g b) (hc : SP X W Wx h c) (hm : lastMarks [.Gt, .Gt] [b, c] = false := by with_unfolding_all rfl) : SV X W Wx (bChain oGt oGt f g h) (.Compare a [.Gt, .Gt] [b, c] pos) := SV_chain (v_gt (W := W)).1 (v_gt (X := X)).2 (v_gt (W := W)).1 (v_gt (X := X)).2 ha hb hc hm
theorem ST_gt_gt {f g h : En → RP} {a b c : Expr} {pos : Pos} (ha : SP X W Wx f a) (hb : SP X W Wx g b) (hc : SP X W Wx h c) (hm : lastMarks [.Gt, .Gt] [b, c] = false := by with_unfolding_all rfl) : ST X W Wx (bT (bChain oGt oGt f g h)) (.Compare a [.Gt, .Gt] [b, c] pos) := ST_chain (v_gt (W := W)).1 (v_gt (X := X)).2 (v_gt (W := W)).1 (v_gt (X := X)).2 ha hb hc hm

theorem SV_gt_ge {f g h : En → RP} {a b c : Expr} {pos : Pos} (ha : SP X W Wx f a) (hb : SP X W Wx g b) (hc : SP X W Wx h c) (hm : lastMarks [.Gt, .GtE] [b, c] = false := by with_unfolding_all rfl) : SV X W Wx (bChain oGt oGe f g h) (.Compare a [.Gt, .GtE] [b, c] pos) := SV_chain (v_gt (W := W)).1 (v_gt (X := X)).2 (v_ge (W := W)).1 (v_ge (X := X)).2 ha hb hc hm
theorem ST_gt_ge {f g h : En → RP} {a b c : Expr} {pos : Pos} (ha : SP X W Wx f a) (hb : SP X W Wx g b) (hc : SP X W Wx h c) (hm : lastMarks [.Gt, .GtE] [b, c] = false := by with_unfolding_all rfl) : ST X W Wx (bT (bChain oGt oGe f g h)) (.Compare a [.Gt, .GtE] [b, c] pos) := ST_chain (v_gt (W := W)).1 (v_gt (X := X)).2 (v_ge (W := W)).1 (v_ge (X := X)).2 ha hb hc hm

theorem SV_ge_lt {f g h : En → RP} {a b c : Expr} {pos : Pos} (ha : SP X W Wx f a) (hb : SP X W Wx g b) (hc : SP X W Wx h c) (hm : lastMarks [.GtE, .Lt] [b, c] = false := by with_unfolding_all rfl) : SV X W Wx (bChain oGe oLt f g h) (.Compare a [.GtE, .Lt] [b, c] pos) := SV_chain (v_ge (W := W)).1 (v_ge (X := X)).2 (v_lt (W := W)).1 (v_lt (X := X)).2 ha hb hc hm
theorem ST_ge_lt {f g h : En → RP} {a b c : Expr} {pos : Pos} (ha : SP X W Wx f a) (hb : SP X W Wx g b) (hc : SP X W Wx h c) (hm : lastMarks [.GtE, .Lt] [b, c] = false := by with_unfolding_all rfl) : ST X W Wx (bT (bChain oGe oLt f g h)) (.Compare a [.GtE, .Lt] [b, c] pos) := ST_chain (v_ge (W := W)).1 (v_ge (X := X)).2 (v_lt (W := W)).1 (v_lt (X := X)).2 ha hb hc hm

theorem SV_ge_le {f g h : En → RP} {a b c : Expr} {pos : Pos} (ha : SP X W Wx f a) (hb : SP X W Wx g b) (hc : SP X W Wx h c) (hm : lastMarks [.GtE, .LtE] [b, c] = false := by with_unfolding_all rfl) : SV X W Wx (bChain oGe oLe f g h) (.Compare a [.GtE, .LtE] [b, c] pos) := SV_chain (v_ge (W := W)).1 (v_ge (X := X)).2 (v_le (W := W)).1 (v_le (X := X)).2 ha hb hc hm
theorem ST_ge_le {f g h : En → RP} {a b c : Expr} {pos : Pos} (ha : SP X W Wx f a) (hb : SP X W Wx g b) (hc : SP X W Wx h c) (hm : lastMarks [.GtE, .LtE] [b, c] = false := by with_unfolding_all rfl) : ST X W Wx (bT (bChain oGe oLe f g h)) (.Compare a [.GtE, .LtE] [b, c] pos) := ST_chain (v_ge (W := W)).1 (v_ge (X := X)).2 (v_le (W := W)).1 (v_le (X := X)).2 ha hb hc hm

theorem SV_ge_gt {f g h : En → RP} {a b c : Expr} {pos : Pos} (ha : SP X W Wx f a) (hb : SP X W Wx g b) (hc : SP X W Wx h c) (hm : lastMarks [.GtE, .Gt] [b, c] = false := by with_unfolding_all rfl) : SV X W Wx (bChain oGe oGt f g h) (.Compare a [.GtE, .Gt] [b, c] pos) := SV_chain (v_ge (W := W)).1 (v_ge (X := X)).2 (v_gt (W := W)).1 (v_gt (X := X)).2 ha hb hc hm
theorem ST_ge_gt {f g h : En → RP} {a b c : Expr} {pos : Pos} (ha : SP X W Wx f a) (hb : SP X W Wx g b) (hc : SP X W Wx h c) (hm : lastMarks [.GtE, .Gt] [b, c] = false := by with_unfolding_all rfl) : ST X W Wx (bT (bChain oGe oGt f g h)) (.Compare a [.GtE, .Gt] [b, c] pos) := ST_chain (v_ge (W := W)).1 (v_ge (X := X)).2 (v_gt (W := W)).1 (v_gt (X := X)).2 ha hb hc hm

theorem SV_ge_ge {f g h : En → RP} {a b c : Expr} {pos : Pos} (ha : SP X W Wx f a) (hb : SP X W Wx g b) (hc : SP X W Wx h c) (hm : lastMarks [.GtE, .GtE] [b, c] = false := by with_unfolding_all rfl) : SV X W Wx (bChain oGe oGe f g h) (.Compare a [.GtE, .GtE] [b, c] pos) := SV_chain (v_ge (W := W)).1 (v_ge (X := X)).2 (v_ge (W := W)).1 (v_ge (X := X)).2 ha hb hc hm
theorem ST_ge_ge {f g h : En → RP} {a b c : Expr} {pos : Pos} (ha : SP X W Wx f a) (hb : SP X W Wx g b) (hc : SP X W Wx h c) (hm : lastMarks [.GtE, .GtE] [b, c] = false := by with_unfolding_all rfl) : ST X W Wx (bT (bChain oGe oGe f g h)) (.Compare a [.GtE, .GtE] [b, c] pos) := ST_chain (v_ge (W := W)).1 (v_ge (X := X)).2 (v_ge (W := W)).1 (v_ge (X := X)).2 ha hb hc hm

theorem SV_at {f g : En → RP} {a b : Expr} {pos : Pos} (hu : X.A.units + 65 < cLine) (ha : SP X W Wx f a) (hb : SP X W Wx g b) (hs : PlainIx b := by intro _ _; rfl) : SV X W Wx (b2 oAt f g) (.Subscript a b pos) := SV_ix (v_at (W := W) (by omega)).1 (v_at (X := X) (by omega)).2 ha hb hs
theorem SE_at {f g : En → RE} {a b : Expr} {pos : Pos} (hu : X.A.units + 65 < cLine) (ha : SE X W Wx f a) (hb : SE X W Wx g b) (hs : PlainIx b := by intro _ _; rfl) : SE X W Wx (eOp2 oAt f g) (.Subscript a b pos) := SE_ix (v_at (W := W) (by omega)).1 (v_at (X := X) (by omega)).2 ha hb hs
theorem SE_atv (i : Nat) {g : En → RE} {x : Str} {pos' : Pos} {b : Expr} {pos : Pos} (hu : X.A.units + 65 < cLine) (hb : SE X W Wx g b) (hs : PlainIx b := by intro _ _; rfl) (hN : X.N[i]? = some x := by rfl) (hv : Vis X.env.scope x := by first | exact Or.inl rfl | exact Or.inr (Or.inl rfl) | exact Or.inr (Or.inr rfl)) (hd : (x == ("__debug__" : Str)) = false := by decide)
    (hcd : (x == ("__classdict__" : Str)) = false := by decide) : SE X W Wx (eOp2v oAt i g) (.Subscript (.Name x pos') b pos) := SE_ixv i (v_at (W := W) (by omega)).1 (v_at (X := X) (by omega)).2 hb hs hN hv hd hcd
theorem SS_iplus (i : Nat) {f : En → RE} {x : Str} {e : Expr} {pos' pos : Pos} (hN : X.N.Nodup) (he : SE X W Wx f e) (hp : i ∉ pr := by decide) (hi : X.N[i]? = some x := by rfl) (hx : Loc X.env.scope x := by first | exact .inl rfl | exact .inr rfl)
    (hf : X.fn x = true ∨ X.env.scope.names.lookup x = some .local := by first | exact .inl rfl | exact .inr rfl) : SS X W Wx pr (sAugV i oAdd f) (.AugAssign (.Name x pos') .Add e pos) := SS_augV i iop_add (v_add (X := X)).2 hN he hp hi hx hf
theorem SS_isub (i : Nat) {f : En → RE} {x : Str} {e : Expr} {pos' pos : Pos} (hN : X.N.Nodup) (he : SE X W Wx f e) (hp : i ∉ pr := by decide) (hi : X.N[i]? = some x := by rfl) (hx : Loc X.env.scope x := by first | exact .inl rfl | exact .inr rfl)
    (hf : X.fn x = true ∨ X.env.scope.names.lookup x = some .local := by first | exact .inl rfl | exact .inr rfl) : SS X W Wx pr (sAugV i oSub f) (.AugAssign (.Name x pos') .Sub e pos) := SS_augV i iop_sub (v_sub (X := X)).2 hN he hp hi hx hf

theorem SV_len {f : En → R Unit (List O)} {p pos : Pos} {e : Expr} {es : List Expr} (hg : Gl X "len") (hm : X.mg "len" = none) (ha : SA X W Wx f (e :: es)) (he : starEach (e :: es) X.env = (false, eval e X.env) :: starEach es X.env := by rfl) (hpl : (backTo pos (starEach es X.env)).any (·.1) = false := by rfl) :
    SV X W Wx (bN oLen f) (.Call (.Name "len" p) (e :: es) [] pos) := SV_callB (v_len (W := W) (X := X)).1 (v_len (W := W) (X := X)).2 hg hm (by decide +kernel) ha (by decide) (by decide) he hpl

theorem SE_len {f : En → RE} {p pos : Pos} {e : Expr} (hg : Gl X "len") (hm : X.mg "len" = none) (ha : SE X W Wx f e) (he : starEach [e] X.env = (false, eval e X.env) :: starEach [] X.env := by rfl) (hpl : (backTo pos (starEach [] X.env)).any (·.1) = false := by rfl) :
    SE X W Wx (e1 oLen f) (.Call (.Name "len" p) [e] [] pos) := SE_callB1 (v_len (W := W) (X := X)).1 (v_len (W := W) (X := X)).2 hg hm (by decide +kernel) ha (by decide) (by decide) he hpl

theorem SV_abs {f : En → R Unit (List O)} {p pos : Pos} {e : Expr} {es : List Expr} (hg : Gl X "abs") (hm : X.mg "abs" = none) (ha : SA X W Wx f (e :: es)) (he : starEach (e :: es) X.env = (false, eval e X.env) :: starEach es X.env := by rfl) (hpl : (backTo pos (starEach es X.env)).any (·.1) = false := by rfl) :
    SV X W Wx (bN oAbs f) (.Call (.Name "abs" p) (e :: es) [] pos) := SV_callB (v_abs (W := W) (X := X)).1 (v_abs (W := W) (X := X)).2 hg hm (by decide +kernel) ha (by decide) (by decide) he hpl

theorem SE_abs {f : En → RE} {p pos : Pos} {e : Expr} (hg : Gl X "abs") (hm : X.mg "abs" = none) (ha : SE X W Wx f e) (he : starEach [e] X.env = (false, eval e X.env) :: starEach [] X.env := by rfl) (hpl : (backTo pos (starEach [] X.env)).any (·.1) = false := by rfl) :
    SE X W Wx (e1 oAbs f) (.Call (.Name "abs" p) [e] [] pos) := SE_callB1 (v_abs (W := W) (X := X)).1 (v_abs (W := W) (X := X)).2 hg hm (by decide +kernel) ha (by decide) (by decide) he hpl

theorem SV_sorted {f : En → R Unit (List O)} {p pos : Pos} {e : Expr} {es : List Expr} (hg : Gl X "sorted") (hm : X.mg "sorted" = none) (ha : SA X W Wx f (e :: es)) (he : starEach (e :: es) X.env = (false, eval e X.env) :: starEach es X.env := by rfl) (hpl : (backTo pos (starEach es X.env)).any (·.1) = false := by rfl) :
    SV X W Wx (bN oSorted f) (.Call (.Name "sorted" p) (e :: es) [] pos) := SV_callB (v_sorted (W := W) (X := X)).1 (v_sorted (W := W) (X := X)).2 hg hm (by decide +kernel) ha (by decide) (by decide) he hpl

theorem SE_sorted {f : En → RE} {p pos : Pos} {e : Expr} (hg : Gl X "sorted") (hm : X.mg "sorted" = none) (ha : SE X W Wx f e) (he : starEach [e] X.env = (false, eval e X.env) :: starEach [] X.env := by rfl) (hpl : (backTo pos (starEach [] X.env)).any (·.1) = false := by rfl) :
    SE X W Wx (e1 oSorted f) (.Call (.Name "sorted" p) [e] [] pos) := SE_callB1 (v_sorted (W := W) (X := X)).1 (v_sorted (W := W) (X := X)).2 hg hm (by decide +kernel) ha (by decide) (by decide) he hpl

theorem SV_toInt {f : En → R Unit (List O)} {p pos : Pos} {e : Expr} {es : List Expr} (hg : Gl X "int") (hm : X.mg "int" = none) (ha : SA X W Wx f (e :: es)) (he : starEach (e :: es) X.env = (false, eval e X.env) :: starEach es X.env := by rfl) (hpl : (backTo pos (starEach es X.env)).any (·.1) = false := by rfl) :
    SV X W Wx (bN oInt f) (.Call (.Name "int" p) (e :: es) [] pos) := SV_callTy (v_int1 (W := W) (X := X)).1 (v_int1 (W := W) (X := X)).2 hg hm (by decide +kernel) ha (by decide) (by decide) he hpl

theorem SE_toInt {f : En → RE} {p pos : Pos} {e : Expr} (hg : Gl X "int") (hm : X.mg "int" = none) (ha : SE X W Wx f e) (he : starEach [e] X.env = (false, eval e X.env) :: starEach [] X.env := by rfl) (hpl : (backTo pos (starEach [] X.env)).any (·.1) = false := by rfl) :
    SE X W Wx (e1 oInt f) (.Call (.Name "int" p) [e] [] pos) := SE_callTy1 (v_int1 (W := W) (X := X)).1 (v_int1 (W := W) (X := X)).2 hg hm (by decide +kernel) ha (by decide) (by decide) he hpl

theorem SV_tuple {f : En → R Unit (List O)} {p pos : Pos} {e : Expr} {es : List Expr} (hg : Gl X "tuple") (hm : X.mg "tuple" = none) (ha : SA X W Wx f (e :: es)) (he : starEach (e :: es) X.env = (false, eval e X.env) :: starEach es X.env := by rfl) (hpl : (backTo pos (starEach es X.env)).any (·.1) = false := by rfl) :
    SV X W Wx (bN oTuple f) (.Call (.Name "tuple" p) (e :: es) [] pos) := SV_callTy (v_tuple (W := W) (X := X)).1 (v_tuple (W := W) (X := X)).2 hg hm (by decide +kernel) ha (by decide) (by decide) he hpl

theorem SE_tuple {f : En → RE} {p pos : Pos} {e : Expr} (hg : Gl X "tuple") (hm : X.mg "tuple" = none) (ha : SE X W Wx f e) (he : starEach [e] X.env = (false, eval e X.env) :: starEach [] X.env := by rfl) (hpl : (backTo pos (starEach [] X.env)).any (·.1) = false := by rfl) :
    SE X W Wx (e1 oTuple f) (.Call (.Name "tuple" p) [e] [] pos) := SE_callTy1 (v_tuple (W := W) (X := X)).1 (v_tuple (W := W) (X := X)).2 hg hm (by decide +kernel) ha (by decide) (by decide) he hpl

theorem SV_tupleM {f : En → R Unit (List O)} {p pos : Pos} {e : Expr} {es : List Expr} (hg : Gl X "tuple") (hm : X.mg "tuple" = none) (ha : SA X W Wx f (e :: es)) (he : starEach (e :: es) X.env = (false, eval e X.env) :: starEach es X.env := by rfl) (hpl : (backTo pos (starEach es X.env)).any (·.1) = false := by rfl) :
    SV X W Wx (bN oTupleM f) (.Call (.Name "tuple" p) (e :: es) [] pos) := SV_callTy (v_tupleM (W := W) (X := X)).1 (v_tupleM (W := W) (X := X)).2 hg hm (by decide +kernel) ha (by decide) (by decide) he hpl

theorem SE_tupleM {f : En → RE} {p pos : Pos} {e : Expr} (hg : Gl X "tuple") (hm : X.mg "tuple" = none) (ha : SE X W Wx f e) (he : starEach [e] X.env = (false, eval e X.env) :: starEach [] X.env := by rfl) (hpl : (backTo pos (starEach [] X.env)).any (·.1) = false := by rfl) :
    SE X W Wx (e1 oTupleM f) (.Call (.Name "tuple" p) [e] [] pos) := SE_callTy1 (v_tupleM (W := W) (X := X)).1 (v_tupleM (W := W) (X := X)).2 hg hm (by decide +kernel) ha (by decide) (by decide) he hpl

theorem SV_list {f : En → R Unit (List O)} {p pos : Pos} {e : Expr} {es : List Expr} (hg : Gl X "list") (hm : X.mg "list" = none) (ha : SA X W Wx f (e :: es)) (he : starEach (e :: es) X.env = (false, eval e X.env) :: starEach es X.env := by rfl) (hpl : (backTo pos (starEach es X.env)).any (·.1) = false := by rfl) :
    SV X W Wx (bN oList f) (.Call (.Name "list" p) (e :: es) [] pos) := SV_callTy (v_list (W := W) (X := X)).1 (v_list (W := W) (X := X)).2 hg hm (by decide +kernel) ha (by decide) (by decide) he hpl

theorem SE_list {f : En → RE} {p pos : Pos} {e : Expr} (hg : Gl X "list") (hm : X.mg "list" = none) (ha : SE X W Wx f e) (he : starEach [e] X.env = (false, eval e X.env) :: starEach [] X.env := by rfl) (hpl : (backTo pos (starEach [] X.env)).any (·.1) = false := by rfl) :
    SE X W Wx (e1 oList f) (.Call (.Name "list" p) [e] [] pos) := SE_callTy1 (v_list (W := W) (X := X)).1 (v_list (W := W) (X := X)).2 hg hm (by decide +kernel) ha (by decide) (by decide) he hpl

theorem SV_dict {f : En → R Unit (List O)} {p pos : Pos} {e : Expr} {es : List Expr} (hc : X.calm = true) (hg : Gl X "dict") (hm : X.mg "dict" = none) (ha : SA X W Wx f (e :: es)) (he : starEach (e :: es) X.env = (false, eval e X.env) :: starEach es X.env := by rfl) (hpl : (backTo pos (starEach es X.env)).any (·.1) = false := by rfl) :
    SV X W Wx (bN oDict f) (.Call (.Name "dict" p) (e :: es) [] pos) := SV_callTy (v_dict (W := W) (X := X) hc).1 (v_dict (W := W) (X := X) hc).2 hg hm (by decide +kernel) ha (by decide) (by decide) he hpl

theorem SE_dict {f : En → RE} {p pos : Pos} {e : Expr} (hc : X.calm = true) (hg : Gl X "dict") (hm : X.mg "dict" = none) (ha : SE X W Wx f e) (he : starEach [e] X.env = (false, eval e X.env) :: starEach [] X.env := by rfl) (hpl : (backTo pos (starEach [] X.env)).any (·.1) = false := by rfl) :
    SE X W Wx (e1 oDict f) (.Call (.Name "dict" p) [e] [] pos) := SE_callTy1 (v_dict (W := W) (X := X) hc).1 (v_dict (W := W) (X := X) hc).2 hg hm (by decide +kernel) ha (by decide) (by decide) he hpl

theorem SV_max {f : En → R Unit (List O)} {p pos : Pos} {e : Expr} {es : List Expr} (hc : X.calm = true) (hg : Gl X "max") (hm : X.mg "max" = none) (ha : SA X W Wx f (e :: es)) (he : starEach (e :: es) X.env = (false, eval e X.env) :: starEach es X.env := by rfl) (hpl : (backTo pos (starEach es X.env)).any (·.1) = false := by rfl) :
    SV X W Wx (bN oMax f) (.Call (.Name "max" p) (e :: es) [] pos) := SV_callB (v_max2 (W := W) (X := X) hc).1 (v_max2 (W := W) (X := X) hc).2 hg hm (by decide +kernel) ha (by decide) (by decide) he hpl

theorem SV_min {f : En → R Unit (List O)} {p pos : Pos} {e : Expr} {es : List Expr} (hc : X.calm = true) (hg : Gl X "min") (hm : X.mg "min" = none) (ha : SA X W Wx f (e :: es)) (he : starEach (e :: es) X.env = (false, eval e X.env) :: starEach es X.env := by rfl) (hpl : (backTo pos (starEach es X.env)).any (·.1) = false := by rfl) :
    SV X W Wx (bN oMin f) (.Call (.Name "min" p) (e :: es) [] pos) := SV_callB (v_min2 (W := W) (X := X) hc).1 (v_min2 (W := W) (X := X) hc).2 hg hm (by decide +kernel) ha (by decide) (by decide) he hpl

end
end
end FD


set_option Elab.async false
set_option linter.all false
set_option maxRecDepth 100000
/-! F21: small things for the printed certificates. -/
namespace FD
noncomputable section
open PySem PySem.Spec L2
theorem fn_stk {P : Program} {w : World} {K : PySem.W.Frag} {mg : Str → Option Value} {base : Heap} {CX : CXT} {k : Nat} {f : Addr} {fd : FuncData} {ps : List Str} {W : Wd} {n : Nat} {pr : List Nat} (T : List O → RC) (h : ∀ ds, T ds = .stk) : FnOk P w K mg base CX k f fd ps (spC W n pr T) where
  len := fun vs H Q E q => by
    obtain ⟨G, ds, FA, _, _, _, _, q⟩ := q
    rw [h] at q; exact q.elim
  run := fun _ _ _ _ _ _ _ _ _ _ _ _ _ q => by
    obtain ⟨G, ds, FA, _, _, _, _, q⟩ := q
    rw [h] at q; exact q.elim
theorem u1 {a : Nat} (h : a + 65 < cLine) : a + 1 < cLine := by omega
theorem not_outs {vs : List Nat} {n i : Nat} (h : i ∈ vs) : i ∉ outs vs n := fun q => by
  unfold outs at q
  rw [List.mem_filter] at q
  simp [h] at q
def NoRet (g : En → RS) : Prop := ∀ env d e, g env ≠ .rt d e
theorem fnT_non {n m : Nat} {pr : List Nat} {g : En → RS} (h : NoRet g) : ∀ ds d fin, fnT n m pr g ds = .ok d fin → d = .sh .non := fun ds d fin e => by
  unfold fnT at e
  split at e
  · unfold tbl at e
    split at e
    · rename_i e1; exact absurd e1 (h _ _ _)
    · split at e
      · cases e; rfl
      · cases e
    · split at e <;> cases e
    · cases e
  · cases e
theorem noRet_nil : NoRet sNil := fun env d e h => by cases h
theorem noRet_cons {g h : En → RS} (a : NoRet g) (b : NoRet h) : NoRet (sCons g h) := fun env d e q => by
  unfold sCons at q
  split at q
  · exact b _ _ _ q
  · exact a _ _ _ q
theorem noRet_fld {cs : List Nat} {i : Nat} {f : Str} {g : En → RE} : NoRet (sFldS cs i f g) := fun env d e q => by
  unfold sFldS at q
  split at q
  · split at q
    · split at q <;> cases q
    · cases q
  · cases q
  · cases q
theorem noRet_set {i : Nat} {g : En → RE} : NoRet (sSet i g) := fun env d e q => by
  unfold sSet at q
  split at q <;> cases q
theorem noRet_expr {g : En → RE} : NoRet (sExpr g) := fun env d e q => by
  unfold sExpr at q
  split at q <;> cases q
theorem noRet_setIx {i : Nat} {f : En → RE} {g : En → RP} : NoRet (sSetIx i f g) := fun env d e q => by
  unfold sSetIx at q
  split at q
  · split at q
    · split at q
      · split at q <;> cases q
      · cases q
      · cases q
    · cases q
  · cases q
  · cases q
theorem noRet_if {c : En → R En (Bool × En)} {g h : En → RS} (a : NoRet g) (b : NoRet h) : NoRet (sIf c g h) := fun env d e q => by
  unfold sIf at q
  split at q
  · exact a _ _ _ q
  · exact b _ _ _ q
  · cases q
  · cases q
theorem noRet_forL {tgt : D → En → Option En} {g : En → RS} (a : NoRet g) : ∀ ds : List D, NoRet (forL tgt g ds)
  | [] => fun env d e q => by cases q
  | x :: xs => fun env d e q => by
    unfold forL at q
    split at q
    · cases q
    · split at q
      · exact noRet_forL a xs _ _ _ q
      · exact noRet_forL a xs _ _ _ q
      · cases q
      · exact a _ _ _ q
theorem noRet_for {it : En → R En (List D × En)} {tgt : D → En → Option En} {g : En → RS} (a : NoRet g) : NoRet (sFor it tgt g) := fun env d e q => by
  unfold sFor at q
  split at q
  · exact noRet_forL a _ _ _ _ q
  · cases q
  · cases q
/-! ### the script, cut -/
def KL (K : PySem.W.Frag) (p : Addr) (vs : List V) : Prop := ∃ (o : Obj) (its : Array Value) (n : Nat), K.lookup p = some o ∧ o.cls = .type "list" ∧ o.dict = none ∧ o.data = .seq its n ∧ its.size ≤ sizeLine ∧ Vals vs its.toList
section
variable {X : Cx} {W : Wd} {Wx : WX} {G H : Hp}
def oSlS (x : O) (lo hi : Option Int) : Option O := match x with
  | .sh (.frl xs) => some (.lst ((cutG xs lo hi).map .sh))
  | _ => none
def bSlS (f : En → RP) (l h : En → R Unit (Option Int)) : En → RP := fun env => (f env).bind fun x => (l env).bind fun a => (h env).bind fun b => ofO (oSlS x a b)
theorem SV_sliceS {f : En → RP} {l h : En → R Unit (Option Int)} {e : Expr} {lo hi : Option Expr} {pos p2 : Pos} (hk : ∀ p vs, W.C.kl p vs → KL X.K p vs) (he : SP X W Wx f e) (hl : SO X W Wx l lo) (hh : SO X W Wx h hi) : SV X W Wx (bSlS f l h) (.Subscript e (.Slice lo hi none p2) pos) := fun env =>
  (pe_slice (r := rSlL X.K) sl_list (he env) (hl env) (hh env)).imp fun σ H Q => by
    rintro ⟨G, Fs, S, q⟩
    refine ⟨G, Fs, S, ?_⟩
    unfold bSlS at q
    cases e1 : f env with
    | stk => rw [e1] at q; exact q
    | exc c u => rw [e1] at q; exact q
    | ok x =>
      rw [e1, bind_ok] at q
      intro v G1 H1 F1 s1 r1
      refine ⟨G1, Fs, S.step0 s1, ?_⟩
      cases e2 : l env with
      | stk => rw [e2] at q; exact q
      | exc c u => rw [e2] at q; exact fun G' H' s => q G' H' (s1.trans s)
      | ok a =>
        rw [e2, bind_ok] at q
        intro G2 H2 s2
        refine ⟨G2, Fs, (S.step0 s1).step0 s2, ?_⟩
        cases e3 : h env with
        | stk => rw [e3] at q; exact q
        | exc c u => rw [e3] at q; exact fun G' H' s => q G' H' ((s1.trans s2).trans s)
        | ok b =>
          rw [e3, bind_ok] at q
          intro G3 H3 s3
          have r3 := (r1.step0 s2).step0 s3
          cases x with
          | sh d =>
            cases d with
            | frl xs =>
              have r' := rp_sh r3
              cases r' with
              | @frl _ p vs h1 h2 h3 =>
                refine ⟨p, vs, rfl, h1.imp (fun h => Rd.sub s3.le h) (hk p vs), fun p' hp' => ?_⟩
                have hs : RpDs W G3 xs vs := paired_of h2 h3
                exact q _ _ _ _ (((s1.trans s2).trans s3).trans (step_own s3.le s3.b hp')) (RpDs.own (none_of_le s3.le hp') upd_same (RpDs.cut hs a b))
            | _ => exact q.elim
          | _ => exact q.elim
end
end
end FD


set_option Elab.async false
set_option linter.all false
set_option maxRecDepth 100000
/-! F22: the combinators' equations, for simp. -/
namespace FD
noncomputable section
open PySem PySem.Spec L2
def grd {α : Type} (b : Bool) (x y : α) : α := if b then x else y
@[simp] theorem grd_true {α : Type} (x y : α) : grd true x y = x := id rfl
@[simp] theorem grd_false {α : Type} (x y : α) : grd false x y = y := id rfl

@[simp] theorem pE_q  (f : En → RP) {env} : pE f env = (match f env with
      | .ok d => .ok (d, env)
      | .exc c _ => .exc c env
      | .stk => .stk) := id rfl
@[simp] theorem bFrz_q  (f : En → RP) {env} : bFrz f env = ((f env).bind fun d => .ok (.sh d.frz)) := id rfl
@[simp] theorem eFrz_q  (f : En → RE) {env} : eFrz f env = ((f env).bind fun p => .ok (.sh p.1.frz, p.2)) := id rfl
@[simp] theorem bVar_q  (i : Nat) {env} : bVar i env = (ofO (gt env i)) := id rfl
@[simp] theorem bSh_q  (i : Nat) {env} : bSh i env = (ofO ((gt env i).bind asSh)) := id rfl
@[simp] theorem bC_q  (d : D) {x0} : bC d x0 = (.ok (.sh d)) := id rfl
@[simp] theorem b2_q  (go : O → O → Option O) (f g : En → RP) {env} : b2 go f g env = ((f env).bind fun x => (g env).bind fun y => ofO (go x y)) := id rfl
@[simp] theorem b1_q  (go : O → Option O) (f : En → RP) {env} : b1 go f env = ((f env).bind fun x => ofO (go x)) := id rfl
@[simp] theorem bN_q  (go : List O → Option O) (f : En → R Unit (List O)) {env} : bN go f env = ((f env).bind fun xs => ofO (go xs)) := id rfl
@[simp] theorem aNil_q  {x0} : aNil  x0 = (.ok []) := id rfl
@[simp] theorem aCons_q  (f : En → RP) (g : En → R Unit (List O)) {env} : aCons f g env = ((f env).bind fun x => (g env).bind fun xs => .ok (x :: xs)) := id rfl
@[simp] theorem bT_q  (f : En → RP) {env} : bT f env = ((f env).bind fun d => ofO (asB d)) := id rfl
@[simp] theorem bNot_q  (f : En → RB) {env} : bNot f env = ((f env).bind fun b => .ok (!b)) := id rfl
@[simp] theorem bAnd_q  (f g : En → RB) {env} : bAnd f g env = ((f env).bind fun b => grd (b) (g env) (.ok false)) := id rfl
@[simp] theorem bOr_q  (f g : En → RB) {env} : bOr f g env = ((f env).bind fun b => grd (b) (.ok true) (g env)) := id rfl
@[simp] theorem bOfT_q  (f : En → RB) {env} : bOfT f env = ((f env).bind fun b => .ok (.sh (.bl b))) := id rfl
@[simp] theorem bAndV_q  (f g : En → RP) {env} : bAndV f g env = ((f env).bind fun x => (ofO (asB x) : RB).bind fun b => grd (b) (g env) (.ok (.sh (.bl false)))) := id rfl
@[simp] theorem bOrV_q  (f g : En → RP) {env} : bOrV f g env = ((f env).bind fun x => (ofO (asB x) : RB).bind fun b => grd (b) (.ok (.sh (.bl true))) (g env)) := id rfl
@[simp] theorem bIf_q  (c : En → RB) (f g : En → RP) {env} : bIf c f g env = ((c env).bind fun b => grd (b) (f env) (g env)) := id rfl
@[simp] theorem uT_q  (f : En → RB) {env} : uT f env = (match f env with
      | .ok b => .ok (b, env)
      | .exc c _ => .exc c env
      | .stk => .stk) := id rfl
@[simp] theorem sNil_q  {env} : sNil  env = (.nx env) := id rfl
@[simp] theorem sCons_q  (g h : En → RS) {env} : sCons g h env = (match g env with
      | .nx e => h e
      | r => r) := id rfl
@[simp] theorem sSet_q  (i : Nat) (f : En → RE) {env} : sSet i f env = (match f env with
      | .ok (d, e) => .nx (e.set i (some d))
      | .exc c e => .exc c e
      | .stk => .stk) := id rfl
@[simp] theorem sRet_q  (f : En → RE) {env} : sRet f env = (match f env with
      | .ok (d, e) => .rt d e
      | .exc c e => .exc c e
      | .stk => .stk) := id rfl
@[simp] theorem sRetN_q  {env} : sRetN  env = (.rt (.sh .non) env) := id rfl
@[simp] theorem sExpr_q  (f : En → RE) {env} : sExpr f env = (match f env with
      | .ok (_, e) => .nx e
      | .exc c e => .exc c e
      | .stk => .stk) := id rfl
@[simp] theorem sBrk_q  {env} : sBrk  env = (.bk env) := id rfl
@[simp] theorem sCnt_q  {env} : sCnt  env = (.ct env) := id rfl
@[simp] theorem sIf_q  (c : En → R En (Bool × En)) (g h : En → RS) {env} : sIf c g h env = (match c env with
      | .ok (true, e) => g e
      | .ok (false, e) => h e
      | .exc c e => .exc c e
      | .stk => .stk) := id rfl
@[simp] theorem sFor_q  (it : En → R En (List D × En)) (tgt : D → En → Option En) (body : En → RS) {env} : sFor it tgt body env = (match it env with
      | .ok (ds, e) => forL tgt body ds e
      | .exc c e => .exc c e
      | .stk => .stk) := id rfl
@[simp] theorem gN_q  (i : Nat) {d} {env} : gN i d env = (some (env.set i (some (.sh d)))) := id rfl
@[simp] theorem gT_q  (u : List D → En → Option En) {d} {env} : gT u d env = (match d with
      | .tup _ xs => u xs env
      | _ => none) := id rfl
@[simp] theorem gsNil_q  {ds} {env} : gsNil  ds env = (grd (ds.isEmpty) (some env) (none)) := id rfl
@[simp] theorem gsCons_q  (t : D → En → Option En) (u : List D → En → Option En) {ds} {env} : gsCons t u ds env = (match ds with
      | [] => none
      | d :: ds => (t d env).bind fun e => u ds e) := id rfl
@[simp] theorem iJ_q  (f : En → R Unit (List D)) {env} : iJ f env = (match f env with
      | .ok ds => .ok (ds, env)
      | .exc c _ => .exc c env
      | .stk => .stk) := id rfl
@[simp] theorem jSeq_q  (f : En → RP) {env} : jSeq f env = ((f env).bind fun x => ofO (itD x)) := id rfl
@[simp] theorem jEnum_q  (f : En → RP) {env} : jEnum f env = ((f env).bind fun x => ofO ((itD x).map enumD)) := id rfl
@[simp] theorem jRange1_q  (f : En → RP) {env} : jRange1 f env = ((f env).bind fun x => ofO ((asI x).bind fun j => grd (okI j) (some (rngD 0 j)) (none))) := id rfl
@[simp] theorem jRange2_q  (f g : En → RP) {env} : jRange2 f g env = ((f env).bind fun x => (g env).bind fun y => ofO ((asI x).bind fun i => (asI y).bind fun j => grd (okI i && okI j) (some (rngD i j)) (none))) := id rfl
@[simp] theorem bYes_q  {x0} : bYes  x0 = (.ok true) := id rfl
@[simp] theorem uYes_q  {env} : uYes  env = (.ok (true, env)) := id rfl
@[simp] theorem bLc_q  (vs : List Nat) (it : En → R Unit (List D)) (tgt : D → En → Option En) (tt : En → RB) (elt : En → RP) {env} : bLc vs it tgt tt elt env = ((it env).bind fun ds => grd (szOk ds.length) (lcP tgt tt elt (wipeE env vs) ds []) (.stk)) := id rfl
@[simp] theorem eLc_q  (vs : List Nat) (it : En → R En (List D × En)) (tgt : D → En → Option En) (tt : En → R En (Bool × En)) (elt : En → RE) {env} : eLc vs it tgt tt elt env = ((it env).bind fun p =>
      grd (szOk p.1.length) (match lcE vs tgt tt elt p.1 [] (wipeE p.2 vs) with
        | .ok (acc, e) => .ok (.lst acc, restE p.2 e vs)
        | _ => .stk) (.stk)) := id rfl
@[simp] theorem nNil_q  {env} : nNil  env = (.ok ([], env)) := id rfl
@[simp] theorem nCons_q  (f : En → RE) (g : En → R En (List O × En)) {env} : nCons f g env = ((f env).bind fun p => (g p.2).bind fun q => .ok (p.1 :: q.1, q.2)) := id rfl
@[simp] theorem nLend_q  (i : Nat) (g : En → R En (List O × En)) {env} : nLend i g env = (match gt env i with
      | some d => (g (env.set i none)).bind fun q => .ok (d :: q.1, q.2)
      | none => .stk) := id rfl
@[simp] theorem eCall_q  (T : List O → RC) (bk : List (Nat × Nat)) (h : En → R En (List O × En)) {env} : eCall T bk h env = ((h env).bind fun p => match T p.1 with
      | .ok d fin => match putB bk fin p.2 with
        | some e => .ok (d, e)
        | none => .stk
      | .exc c fin => match putB bk fin p.2 with
        | some e => .exc c e
        | none => .stk
      | .stk => .stk) := id rfl
@[simp] theorem bCall_q  (T : List O → RC) (f : En → R Unit (List O)) {env} : bCall T f env = ((f env).bind (callP T)) := id rfl
@[simp] theorem bMeth_q  (c : Nat) (m : Str) (T : List O → RC) (f : En → RP) (g : En → R Unit (List O)) {env} : bMeth c m T f g env = ((f env).bind fun x => grd (insOf c m x) ((g env).bind fun ds => callP T (x :: ds)) (.stk)) := id rfl
@[simp] theorem bFldC_q  (cs : List Nat) (f : Str) (g : En → RP) {env} : bFldC cs f g env = ((g env).bind fun x => match insC x with
      | some c => grd (cs.contains c) (ofO (fldO f x)) (.stk)
      | none => .stk) := id rfl
@[simp] theorem bTup_q  (f : En → R Unit (List O)) {env} : bTup f env = ((f env).bind fun xs => ofO ((allSh xs).bind fun ds => grd (szOk ds.length) (some (.sh (.tup false ds))) (none))) := id rfl
@[simp] theorem bLst_q  (f : En → R Unit (List O)) {env} : bLst f env = ((f env).bind fun xs => ofO ((allSh xs).bind fun ds => grd (szOk ds.length) (some (.lst (ds.map .sh))) (none))) := id rfl
@[simp] theorem bSl_q  (f : En → RP) (l h : En → R Unit (Option Int)) {env} : bSl f l h env = ((f env).bind fun x => (l env).bind fun a => (h env).bind fun b => ofO (oSl x a b)) := id rfl
@[simp] theorem pNo_q  {x0} : pNo  x0 = (.ok none) := id rfl
@[simp] theorem pI_q  (f : En → RP) {env} : pI f env = ((f env).bind fun x => ofO ((asI x).map some)) := id rfl
@[simp] theorem eOp2_q  (go : O → O → Option O) (f g : En → RE) {env} : eOp2 go f g env = ((f env).bind fun p => (g p.2).bind fun q => match go p.1 q.1 with
      | some z => .ok (z, q.2)
      | none => .stk) := id rfl
@[simp] theorem eOp2v_q  (go : O → O → Option O) (i : Nat) (g : En → RE) {env} : eOp2v go i g env = (match gt env i with
      | none => .stk
      | some _ => (g env).bind fun q => match (gt q.2 i).bind fun x => go x q.1 with
        | some z => .ok (z, q.2)
        | none => .stk) := id rfl
@[simp] theorem e1_q  (go : List O → Option O) (f : En → RE) {env} : e1 go f env = ((f env).bind fun p => match go [p.1] with
      | some z => .ok (z, p.2)
      | none => .stk) := id rfl
@[simp] theorem uV_q  (f : En → RE) {env} : uV f env = ((f env).bind fun p => match asB p.1 with
      | some b => .ok (b, p.2)
      | none => .stk) := id rfl
@[simp] theorem eTup_q  (f : En → R En (List O × En)) {env} : eTup f env = ((f env).bind fun p => grd (szOk p.1.length) (.ok (.sh (.tup false (p.1.map O.frz)), p.2)) (.stk)) := id rfl
@[simp] theorem eLst_q  (f : En → R En (List O × En)) {env} : eLst f env = ((f env).bind fun p => grd (szOk p.1.length) (.ok (.lst p.1, p.2)) (.stk)) := id rfl
@[simp] theorem iE_q  (f : En → RE) {env} : iE f env = ((f env).bind fun p => match itD p.1 with
      | some ds => .ok (ds, p.2)
      | none => .stk) := id rfl
@[simp] theorem iRange1_q  (f : En → RE) {env} : iRange1 f env = ((f env).bind fun p => match asI p.1 with
      | some j => grd (okI j) (.ok (rngD 0 j, p.2)) (.stk)
      | none => .stk) := id rfl
@[simp] theorem eApp_q  (i : Nat) (f : En → RE) {env} : eApp i f env = (match lstG env i with
      | none => .stk
      | some _ => (f env).bind fun p => match lstG p.2 i with
        | some xs => grd (szOk (xs.length + 1)) (.ok (.sh .non, p.2.set i (some (.lst (xs ++ [p.1]))))) (.stk)
        | none => .stk) := id rfl
@[simp] theorem ePop_q  (i : Nat) (f : En → RP) {env} : ePop i f env = (match lstG env i with
      | none => .stk
      | some xs => match f env with
        | .ok y => match (asI y).bind fun j => grd (okI j) (seqIndex? j xs.length) (none) with
          | some k => match xs[k]? with
            | some d => .ok (d, env.set i (some (.lst (xs.eraseIdx k))))
            | none => .stk
          | none => .stk
        | .exc c _ => .exc c env
        | .stk => .stk) := id rfl
@[simp] theorem ePop0_q  (i : Nat) {env} : ePop0 i env = (match lstG env i with
      | none => .stk
      | some xs => match xs[xs.length - 1]? with
        | some d => .ok (d, env.set i (some (.lst xs.dropLast)))
        | none => .stk) := id rfl
@[simp] theorem sSetIx_q  (i : Nat) (f : En → RE) (g : En → RP) {env} : sSetIx i f g env = (match f env with
      | .ok (d, e) => match lstG e i with
        | some xs => match g e with
          | .ok y => match (asI y).bind fun j => ixN xs.length j with
            | some k => .nx (e.set i (some (.lst (xs.set k d))))
            | none => .stk
          | .exc c _ => .exc c e
          | .stk => .stk
        | none => .stk
      | .exc c e => .exc c e
      | .stk => .stk) := id rfl
@[simp] theorem eRem_q  (i : Nat) (f : En → RP) {env} : eRem i f env = (match (lstG env i).bind intsO with
      | none => .stk
      | some ns => match f env with
        | .ok y => match asI y with
          | some k => grd (ns.contains k) (.ok (.sh .non, env.set i (some (.lst ((ns.erase k).map fun j => .sh (.int j)))))) (.stk)
          | none => .stk
        | .exc c _ => .exc c env
        | .stk => .stk) := id rfl
@[simp] theorem sPar_q  (i j : Nat) (f : En → R En (List O × En)) {env} : sPar i j f env = (match f env with
      | .ok ([x, y], e) => .nx ((e.set i (some x)).set j (some y))
      | .ok _ => .stk
      | .exc c e => .exc c e
      | .stk => .stk) := id rfl
@[simp] theorem bDGet_q  (f g : En → RP) {env} : bDGet f g env = ((f env).bind fun x => grd (isDct x) ((g env).bind fun y => match dGet x y with
      | some (some z) => ofO (asSh z)
      | some none => .ok (.sh .non)
      | none => .stk) (.stk)) := id rfl
@[simp] theorem bIdx_q  (f g : En → RP) {env} : bIdx f g env = ((f env).bind fun x => match x with
      | .sh (.tup true ds) => (g env).bind fun y => match y with
        | .sh d => grd (pyOkL ds && pyOk d) (ofO ((idxD ds d).map fun j => .sh (.int (j : Nat)))) (.stk)
        | _ => .stk
      | .sh (.lst ds) => (g env).bind fun y => match y with
        | .sh d => grd (pyOkL ds && pyOk d) (ofO ((idxD ds d).map fun j => .sh (.int (j : Nat)))) (.stk)
        | _ => .stk
      | _ => .stk) := id rfl
@[simp] theorem rg1_q  (f : En → RP) {env} : rg1 f env = ((f env).bind fun x => ofO ((asI x).map fun n => (0, n))) := id rfl
@[simp] theorem rg2_q  (f g : En → RP) {env} : rg2 f g env = ((f env).bind fun x => (g env).bind fun y => ofO ((asI x).bind fun i => (asI y).map fun j => (i, j))) := id rfl
@[simp] theorem bLstR_q  (f : En → R Unit (Int × Int)) {env} : bLstR f env = ((f env).bind fun p => grd (okR p.1 p.2) (.ok (.lst ((rngD p.1 p.2).map .sh))) (.stk)) := id rfl
@[simp] theorem bTupR_q  (f : En → R Unit (Int × Int)) {env} : bTupR f env = ((f env).bind fun p => grd (okR p.1 p.2) (.ok (.sh (.tup false (rngD p.1 p.2)))) (.stk)) := id rfl
@[simp] theorem eMake_q  (c : Nat) (T : List O → RC) (h : En → R En (List O × En)) {env} : eMake c T h env = ((h env).bind fun p => match T (.ins c [] :: p.1) with
      | .ok _ [x] => .ok (x, p.2)
      | .exc c' _ => .exc c' p.2
      | _ => .stk) := id rfl
@[simp] theorem sFldS_q  (cs : List Nat) (i : Nat) (f : Str) (g : En → RE) {env} : sFldS cs i f g env = (match g env with
      | .ok (d, e) => match insG e i with
        | some (c, fs) => grd (cs.contains c && decide (fs.length < 1000)) (.nx (e.set i (some (.ins c (putFG f d fs))))) (.stk)
        | none => .stk
      | .exc c e => .exc c e
      | .stk => .stk) := id rfl
@[simp] theorem sAugV_q  (i : Nat) (go : O → O → Option O) (f : En → RE) {env} : sAugV i go f env = (match gt env i with
      | some (.sh d) => match f env with
        | .ok (y, e) => match go (.sh d) y with
          | some z => .nx (e.set i (some z))
          | none => .stk
        | .exc c e => .exc c e
        | .stk => .stk
      | _ => .stk) := id rfl
@[simp] theorem sExt_q  (i : Nat) (f : En → RE) {env} : sExt i f env = (match lstG env i with
      | none => .stk
      | some _ => match f env with
        | .ok (y, e) => match (lstG e i).bind allSh with
          | some ds => match lstO y with
            | some ys => grd (szOk (ds.length + ys.length)) (.nx (e.set i (some (.lst ((ds ++ ys).map .sh))))) (.stk)
            | none => .stk
          | none => .stk
        | .exc c e => .exc c e
        | .stk => .stk) := id rfl
@[simp] theorem bChain_q  (go go' : O → O → Option O) (f g h : En → RP) {env} : bChain go go' f g h env = ((f env).bind fun x => (g env).bind fun y => (ofO ((go x y).bind asB) : RB).bind fun k => grd (k) ((h env).bind fun z => ofO (go' y z)) (.ok (.sh (.bl false)))) := id rfl
@[simp] theorem sAsgG_q  (tgt : D → En → Option En) (f : En → RE) {env} : sAsgG tgt f env = (match f env with
      | .ok (.sh d, e) => match tgt d e with
        | some e' => .nx e'
        | none => .stk
      | .ok _ => .stk
      | .exc c e => .exc c e
      | .stk => .stk) := id rfl
@[simp] theorem eSl_q  (f : En → RE) (l h : En → R Unit (Option Int)) {env} : eSl f l h env = ((f env).bind fun p => match l p.2 with
      | .ok a => match h p.2 with
        | .ok b => match oSl p.1 a b with
          | some z => .ok (z, p.2)
          | none => .stk
        | .exc c _ => .exc c p.2
        | .stk => .stk
      | .exc c _ => .exc c p.2
      | .stk => .stk) := id rfl
@[simp] theorem eSlLo_q  (f : En → RP) (l : En → RE) {env} : eSlLo f l env = (match f env with
      | .ok (.sh d) => (l env).bind fun p => match (asI p.1).bind fun i => oSl (.sh d) (some i) none with
        | some z => .ok (z, p.2)
        | none => .stk
      | .exc c _ => .exc c env
      | _ => .stk) := id rfl
@[simp] theorem sForO_q  (f : En → RE) (i : Nat) (body : En → RS) {env} : sForO f i body env = (match f env with
      | .ok (.lst xs, e) => forO i body xs e
      | .ok _ => .stk
      | .exc c e => .exc c e
      | .stk => .stk) := id rfl
@[simp] theorem eMove_q  (i : Nat) {env} : eMove i env = (match gt env i with
      | some d => .ok (d, env.set i none)
      | none => .stk) := id rfl
@[simp] theorem eFrzV_q  (i : Nat) {env} : eFrzV i env = (match gt env i with
      | some d => .ok (.sh d.frz, env.set i (some (.sh d.frz)))
      | none => .stk) := id rfl
@[simp] theorem bAsSh_q  (f : En → RP) {env} : bAsSh f env = ((f env).bind fun x => ofO (asSh x)) := id rfl
@[simp] theorem bSlS_q  (f : En → RP) (l h : En → R Unit (Option Int)) {env} : bSlS f l h env = ((f env).bind fun x => (l env).bind fun a => (h env).bind fun b => ofO (oSlS x a b)) := id rfl
@[simp] theorem orE_q  (f g : O → O → Option O) {x} {y} : orE f g x y = (match f x y with
      | some z => some z
      | none => g x y) := id rfl

@[simp] theorem gt_zero (x : Option O) (xs : En) : gt (x :: xs) 0 = x := id rfl
@[simp] theorem gt_succ (x : Option O) (xs : En) (n : Nat) : gt (x :: xs) (n + 1) = gt xs n := id rfl
@[simp] theorem asSh_sh (d : D) : asSh (.sh d) = some (.sh d) := id rfl
@[simp] theorem asI_int (i : Int) : asI (.sh (.int i)) = some i := id rfl
@[simp] theorem asB_bl (b : Bool) : asB (.sh (.bl b)) = some b := id rfl
@[simp] theorem itD_sh (d : D) : itD (.sh d) = asSeq d := id rfl
@[simp] theorem asSeq_lst (xs : List D) : asSeq (.lst xs) = some xs := id rfl
@[simp] theorem asSeq_tup (m : Bool) (xs : List D) : asSeq (.tup m xs) = some xs := id rfl
@[simp] theorem fnE_q (m : Nat) (ds : List O) : fnE m ds = ds.map some ++ List.replicate (m - ds.length) none := id rfl
@[simp] theorem finL_nil (e : En) : finL [] e = some [] := id rfl
@[simp] theorem finL_cons (i : Nat) (is : List Nat) (e : En) : finL (i :: is) e = (gt e i).bind fun d => (finL is e).map (d :: ·) := id rfl
@[simp] theorem putB_nil (fin : List O) (e : En) : putB [] fin e = some e := id rfl
@[simp] theorem putB_cons (i j : Nat) (bk : List (Nat × Nat)) (fin : List O) (e : En) : putB ((i, j) :: bk) fin e = match fin[j]? with
  | some d => putB bk fin (e.set i (some d))
  | none => none := id rfl
@[simp] theorem tbl_rt (pr : List Nat) (d : O) (e : En) : tbl pr (.rt d e) = match finL pr e with
  | some fin => .ok d fin
  | none => .stk := id rfl
@[simp] theorem tbl_nx (pr : List Nat) (e : En) : tbl pr (.nx e) = match finL pr e with
  | some fin => .ok (.sh .non) fin
  | none => .stk := id rfl
@[simp] theorem fnT_q (n m : Nat) (pr : List Nat) (g : En → RS) (ds : List O) : fnT n m pr g ds = if ds.length = n then tbl pr (g (fnE m ds)) else .stk := id rfl
@[simp] theorem lstG_q (env : En) (i : Nat) : lstG env i = match gt env i with
  | some (.lst xs) => some xs
  | _ => none := id rfl
@[simp] theorem wipeE_nil (e : En) : wipeE e [] = e := id rfl
@[simp] theorem wipeE_cons (e : En) (v : Nat) (vs : List Nat) : wipeE e (v :: vs) = (wipeE e vs).set v none := id rfl
@[simp] theorem restE_nil (e0 e : En) : restE e0 e [] = e := id rfl
@[simp] theorem restE_cons (e0 e : En) (v : Nat) (vs : List Nat) : restE e0 e (v :: vs) = (restE e0 e vs).set v (shOf (gt e0 v)) := id rfl
@[simp] theorem shOf_sh (d : D) : shOf (some (.sh d)) = some (.sh d) := id rfl
@[simp] theorem shOf_none : shOf none = none := id rfl
@[simp] theorem shOf_lst (xs : List O) : shOf (some (.lst xs)) = none := id rfl
@[simp] theorem forL_nil (tgt : D → En → Option En) (b : En → RS) (env : En) : forL tgt b [] env = .nx env := id rfl
@[simp] theorem allSh_nil : allSh [] = some [] := id rfl
@[simp] theorem allSh_cons (d : D) (xs : List O) : allSh (.sh d :: xs) = (allSh xs).bind fun ds => some (d :: ds) := id rfl
@[simp] theorem lstO_sh (xs : List D) : lstO (.sh (.lst xs)) = some xs := id rfl
@[simp] theorem lstO_lst (xs : List O) : lstO (.lst xs) = allSh xs := id rfl
/-! values -/
@[simp] theorem oAdd_int (i j : Int) : oAdd (.sh (.int i)) (.sh (.int j)) = some (.sh (.int (i + j))) := id rfl
@[simp] theorem oSub_int (i j : Int) : oSub (.sh (.int i)) (.sh (.int j)) = some (.sh (.int (i - j))) := id rfl
@[simp] theorem oMul_int (i j : Int) : oMul (.sh (.int i)) (.sh (.int j)) = grd (cMul i j) (some (.sh (.int (i * j)))) none := id rfl
@[simp] theorem oDiv_int (i j : Int) : oDiv (.sh (.int i)) (.sh (.int j)) = grd (okJ j) (some (.sh (.int (i / j)))) none := id rfl
@[simp] theorem oMod_int (i j : Int) : oMod (.sh (.int i)) (.sh (.int j)) = grd (decide (0 < j)) (some (.sh (.int (i % j)))) none := id rfl
@[simp] theorem oLt_int (i j : Int) : oLt (.sh (.int i)) (.sh (.int j)) = some (.sh (.bl (decide (i < j)))) := id rfl
@[simp] theorem oLe_int (i j : Int) : oLe (.sh (.int i)) (.sh (.int j)) = some (.sh (.bl (decide (i ≤ j)))) := id rfl
@[simp] theorem oGt_int (i j : Int) : oGt (.sh (.int i)) (.sh (.int j)) = some (.sh (.bl (decide (j < i)))) := id rfl
@[simp] theorem oGe_int (i j : Int) : oGe (.sh (.int i)) (.sh (.int j)) = some (.sh (.bl (decide (j ≤ i)))) := id rfl
@[simp] theorem oPlus_int (i j : Int) : oPlus (.sh (.int i)) (.sh (.int j)) = some (.sh (.int (i + j))) := id rfl
@[simp] theorem oPlus_tup (m m' : Bool) (xs ys : List D) (h : xs.length + ys.length ≤ 16777216) : oPlus (.sh (.tup m xs)) (.sh (.tup m' ys)) = some (.sh (if xs.isEmpty then .tup m' ys else if ys.isEmpty then .tup m xs else .tup false (xs ++ ys))) := by
  have h : xs.length + ys.length ≤ lim := by rw [lim_eq, sizeLine_eq]; exact h
  simp [oPlus, catT, h, oAdd, oI, asI]
@[simp] theorem oStar_int (i j : Int) (h : cMul i j = true) : oStar (.sh (.int i)) (.sh (.int j)) = some (.sh (.int (i * j))) := by
  unfold oStar orE
  rw [oMul_int, h]; rfl
@[simp] theorem oIs_non : oIs (.sh .non) (.sh .non) = some (.sh (.bl true)) := id rfl
@[simp] theorem oIs_int (i : Int) : oIs (.sh (.int i)) (.sh .non) = some (.sh (.bl false)) := id rfl
@[simp] theorem oIs_tup (m : Bool) (i : List D) : oIs (.sh (.tup m i)) (.sh .non) = some (.sh (.bl false)) := id rfl
@[simp] theorem oIsNot_non : oIsNot (.sh .non) (.sh .non) = some (.sh (.bl false)) := id rfl
@[simp] theorem oIsNot_int (i : Int) : oIsNot (.sh (.int i)) (.sh .non) = some (.sh (.bl true)) := id rfl
@[simp] theorem oIsNot_tup (m : Bool) (i : List D) : oIsNot (.sh (.tup m i)) (.sh .non) = some (.sh (.bl true)) := id rfl
@[simp] theorem oInt_int (i : Int) : oInt [.sh (.int i)] = some (.sh (.int i)) := id rfl
@[simp] theorem oInt_bl (b : Bool) : oInt [.sh (.bl b)] = some (.sh (.int (if b then 1 else 0))) := id rfl
@[simp] theorem oAbs_int (i : Int) : oAbs [.sh (.int i)] = some (.sh (.int (if i < 0 then -i else i))) := id rfl
@[simp] theorem oNeg_int (i : Int) : oNeg (.sh (.int i)) = some (.sh (.int (-i))) := id rfl
@[simp] theorem toPyL_nil : toPyL [] = [] := by rw [toPyL]
@[simp] theorem toPyL_cons (x : D) (xs : List D) : toPyL (x :: xs) = toPy x :: toPyL xs := by rw [toPyL]
@[simp] theorem deq_int (i j : Int) : deq (.int i) (.int j) = decide (i = j) := by unfold deq; rw [toPy, toPy]; unfold PyData.eqv; exact Bool.beq_eq_decide_eq i j
theorem pyOk_int (i : Int) : pyOk (.int i) = true := rfl
@[simp] theorem oEq_int (i j : Int) : oEq (.sh (.int i)) (.sh (.int j)) = some (.sh (.bl (decide (i = j)))) := by
  unfold oEq oEqW
  simp only [frz_sh, pyOk_int, deq_int]; rfl
@[simp] theorem oNe_int (i j : Int) : oNe (.sh (.int i)) (.sh (.int j)) = some (.sh (.bl (!decide (i = j)))) := by
  unfold oNe oEqW
  simp only [frz_sh, pyOk_int, deq_int]; rfl
end
end FD


set_option Elab.async false
set_option linter.all false
set_option maxRecDepth 100000
/-! F23: equality of plain data; comprehensions and loops as plain functions. -/
namespace FD
noncomputable section
open PySem PySem.Spec L2
/-! ### plain data -/
def okD : Nat → D → Bool
  | _, .non => true
  | _, .bl _ => true
  | _, .int _ => true
  | _, .str s => PyData.canLay0 (.str s)
  | k + 1, .tup _ xs => xs.all (okD k)
  | k + 1, .lst xs => xs.all (okD k)
  | _, _ => false
theorem okD_list (k : Nat) (ih : ∀ d, okD k d = true → plainD d = true ∧ PyData.canLay0 (toPy d) = true ∧ PyData.depth (toPy d) ≤ k) : ∀ xs : List D, xs.all (okD k) = true → plainDL xs = true ∧ PyData.canLayAll0 (toPyL xs) = true ∧ PyData.depthAll (toPyL xs) ≤ k
  | [], _ => by simp [plainDL, PyData.canLayAll0, PyData.depthAll]
  | x :: xs, h => by
    rw [List.all_cons, Bool.and_eq_true] at h
    obtain ⟨h1, h2, h3⟩ := ih x h.1
    obtain ⟨h4, h5, h6⟩ := okD_list k ih xs h.2
    simp only [plainDL, toPyL_cons, PyData.canLayAll0, PyData.depthAll, h1, h2, h4, h5]
    exact ⟨rfl, rfl, by omega⟩
theorem okD_ok : ∀ (k : Nat) (d : D), okD k d = true → plainD d = true ∧ PyData.canLay0 (toPy d) = true ∧ PyData.depth (toPy d) ≤ k
  | k, .non, _ => by simp [plainD, toPy, PyData.canLay0, PyData.depth]
  | k, .bl _, _ => by simp [plainD, toPy, PyData.canLay0, PyData.depth]
  | k, .int _, _ => by simp [plainD, toPy, PyData.canLay0, PyData.depth]
  | k, .str s, h => by
    have h : PyData.canLay0 (.str s) = true := by simpa [okD] using h
    simp [plainD, toPy, h, PyData.depth]
  | 0, .tup _ _, h => by simp [okD] at h
  | 0, .lst _, h => by simp [okD] at h
  | k + 1, .tup _ xs, h => by
    obtain ⟨h1, h2, h3⟩ := okD_list k (okD_ok k) xs (by simpa [okD] using h)
    simp only [plainD, toPy, PyData.canLay0, PyData.depth, h1, h2]
    exact ⟨trivial, trivial, by omega⟩
  | k + 1, .lst xs, h => by
    obtain ⟨h1, h2, h3⟩ := okD_list k (okD_ok k) xs (by simpa [okD] using h)
    simp only [plainD, toPy, PyData.canLay0, PyData.depth, h1, h2]
    exact ⟨trivial, trivial, by omega⟩
  | k, .frl _, h => by cases k <;> simp [okD] at h
  | k, .dK _, h => by cases k <;> simp [okD] at h
  | k, .dT _, h => by cases k <;> simp [okD] at h
  | k, .ins _ _, h => by cases k <;> simp [okD] at h
theorem pyOk_of {d : D} (h : okD 60 d = true) : pyOk d = true := by
  obtain ⟨h1, h2, h3⟩ := okD_ok 60 d h
  unfold pyOk SeqAt.shaped
  rw [h1, h2, decide_eq_true (by omega : PyData.depth (toPy d) ≤ 64)]; rfl
theorem pyOkL_of {ds : List D} (h : ds.all (okD 60) = true) : pyOkL ds = true := by
  obtain ⟨h1, h2, h3⟩ := okD_list 60 (okD_ok 60) ds h
  unfold pyOkL SeqAt.shaped
  rw [h1]
  have h4 : PyData.canLay0 (.list (toPyL ds)) = true := by simp only [PyData.canLay0]; exact h2
  have h5 : PyData.depth (.list (toPyL ds)) ≤ 64 := by simp only [PyData.depth]; omega
  rw [h4, decide_eq_true h5]; rfl
def deqL (xs ys : List D) : Bool := PyData.eqvAll (toPyL xs) (toPyL ys)
@[simp] theorem deq_lst (xs ys : List D) : deq (.lst xs) (.lst ys) = deqL xs ys := by unfold deq deqL; rw [toPy, toPy]; unfold PyData.eqv; rfl
@[simp] theorem deq_tup (m m' : Bool) (xs ys : List D) : deq (.tup m xs) (.tup m' ys) = deqL xs ys := by unfold deq deqL; rw [toPy, toPy]; unfold PyData.eqv; rfl
@[simp] theorem deq_non : deq .non .non = true := id rfl
@[simp] theorem deq_bl (a b : Bool) : deq (.bl a) (.bl b) = (a == b) := by unfold deq; rw [toPy, toPy]; unfold PyData.eqv; rfl
@[simp] theorem deq_non_int (i : Int) : deq .non (.int i) = false := by unfold deq; rw [toPy, toPy]; unfold PyData.eqv; rfl
@[simp] theorem deq_int_non (i : Int) : deq (.int i) .non = false := by unfold deq; rw [toPy, toPy]; unfold PyData.eqv; rfl
@[simp] theorem deq_non_tup (m : Bool) (xs : List D) : deq .non (.tup m xs) = false := by unfold deq; rw [toPy, toPy]; unfold PyData.eqv; rfl
@[simp] theorem deq_tup_non (m : Bool) (xs : List D) : deq (.tup m xs) .non = false := by unfold deq; rw [toPy, toPy]; unfold PyData.eqv; rfl
@[simp] theorem deqL_nil : deqL [] [] = true := by unfold deqL; simp [PyData.eqvAll]
@[simp] theorem deqL_nc (y : D) (ys : List D) : deqL [] (y :: ys) = false := by unfold deqL; simp [PyData.eqvAll]
@[simp] theorem deqL_cn (y : D) (ys : List D) : deqL (y :: ys) [] = false := by unfold deqL; simp [PyData.eqvAll]
@[simp] theorem deqL_cons (x y : D) (xs ys : List D) : deqL (x :: xs) (y :: ys) = (deq x y && deqL xs ys) := by unfold deqL deq; simp [PyData.eqvAll]
theorem deqL_map {α : Type} [DecidableEq α] (f : α → D) (hf : ∀ a b, deq (f a) (f b) = decide (a = b)) : ∀ xs ys : List α, deqL (xs.map f) (ys.map f) = decide (xs = ys)
  | [], [] => by simp
  | [], y :: ys => by simp
  | x :: xs, [] => by simp
  | x :: xs, y :: ys => by
    rw [List.map_cons, List.map_cons, deqL_cons, hf, deqL_map f hf xs ys]
    by_cases h : x = y
    · subst h; simp
    · simp [h]
@[simp] theorem deqL_ints (xs ys : List Int) : deqL (xs.map D.int) (ys.map D.int) = decide (xs = ys) := deqL_map D.int (fun a b => deq_int a b) xs ys
theorem oEq_of {x y : O} (h1 : okD 60 x.frz = true) (h2 : okD 60 y.frz = true) : oEq x y = some (.sh (.bl (deq x.frz y.frz))) := by
  unfold oEq oEqW
  rw [pyOk_of h1, pyOk_of h2]; rfl
theorem oNe_of {x y : O} (h1 : okD 60 x.frz = true) (h2 : okD 60 y.frz = true) : oNe x y = some (.sh (.bl (!deq x.frz y.frz))) := by
  unfold oNe oEqW
  rw [pyOk_of h1, pyOk_of h2]; rfl
@[simp] theorem okD_int (k : Nat) (i : Int) : okD k (.int i) = true := by cases k <;> rfl
@[simp] theorem okD_non (k : Nat) : okD k .non = true := by cases k <;> rfl
@[simp] theorem okD_bl (k : Nat) (b : Bool) : okD k (.bl b) = true := by cases k <;> rfl
@[simp] theorem okD_lst (k : Nat) (xs : List D) : okD (k + 1) (.lst xs) = xs.all (okD k) := id rfl
@[simp] theorem okD_tup (k : Nat) (m : Bool) (xs : List D) : okD (k + 1) (.tup m xs) = xs.all (okD k) := id rfl
@[simp] theorem ints_all (k : Nat) (l : List Int) : (l.map D.int).all (okD k) = true := by
  rw [List.all_eq_true]
  intro x hx
  obtain ⟨i, _, rfl⟩ := List.mem_map.mp hx
  exact okD_int k i
@[simp] theorem szOk_le {n : Nat} (h : n ≤ 16777216) : szOk n = true := decide_eq_true (by rw [lim_eq, sizeLine_eq]; exact h)
/-! ### lists of ints in slots -/
abbrev li (l : List Int) : O := .lst (l.map fun i => .sh (.int i))
theorem li_eq (l : List Int) : (l.map fun i => O.sh (.int i)) = (l.map D.int).map O.sh := shI l
@[simp] theorem map_frz (l : List D) : (l.map O.sh).map O.frz = l := by
  rw [List.map_map]
  have : O.frz ∘ O.sh = id := by funext d; exact frz_sh d
  rw [this, List.map_id]
@[simp] theorem li_frz (l : List Int) : (O.lst (l.map fun i => O.sh (.int i))).frz = .lst (l.map .int) := by rw [frz_lst, li_eq, map_frz]
@[simp] theorem itemsD_ints (l : List Int) : itemsD (.lst (l.map fun i => O.sh (.int i))) = some (true, l.map D.int) := by rw [li_eq]; exact itemsD_own _
@[simp] theorem allSh_ints (l : List Int) : allSh (l.map fun i => O.sh (.int i)) = some (l.map D.int) := by rw [li_eq, allSh_map]
@[simp] theorem intsO_ints (l : List Int) : intsO (l.map fun i => O.sh (.int i)) = some l := by rw [li_eq, intsO_map]
@[simp] theorem oNe_li_nil (l : List Int) : oNe (.lst (l.map fun i => O.sh (.int i))) (.lst []) = some (.sh (.bl (!decide (l = [])))) := by
  have h : (O.lst []).frz = .lst [] := by simp
  rw [oNe_of (by rw [li_frz]; exact ints_all 59 l) (by rw [h]; rfl), li_frz, h]
  have := deqL_ints l []
  rw [deq_lst]
  simp only [List.map_nil] at this
  rw [this]
@[simp] theorem oLen_li (l : List Int) : oLen [.lst (l.map fun i => O.sh (.int i))] = some (.sh (.int l.length)) := by
  unfold oLen
  simp [seqO]
theorem atI_nat {α : Type} (xs : List α) (j : Nat) : atI xs (j : Int) = xs[j]? := by
  unfold atI ixN
  by_cases h : j < xs.length
  · simp [h]
  · simp [h]
theorem oAt_seq {x : O} {b : Bool} {ds : List D} {j : Int} {d : D} (h : itemsD x = some (b, ds)) (hj : atI ds j = some d) : oAt x (.sh (.int j)) = some (.sh d) := by
  unfold oAt orE oIx
  rw [h]
  simp [hj]
theorem oAt_li (l : List Int) (j : Nat) (i : Int) (h : l[j]? = some i) : oAt (.lst (l.map fun i => O.sh (.int i))) (.sh (.int (j : Int))) = some (.sh (.int i)) := by
  refine oAt_seq (itemsD_ints l) ?_
  rw [atI_nat, List.getElem?_map, h]; rfl
/-! ### comprehensions -/
theorem lcP_eq {tgt : D → En → Option En} {tt : En → RB} {el : En → RP} {env : En} {α : Type} (f : α → D) (e1 : α → En) (p : α → Bool) (q : α → O) : ∀ (xs : List α) (acc : List O), (∀ a ∈ xs, tgt (f a) env = some (e1 a) ∧ tt (e1 a) = .ok (p a) ∧ (p a = true → el (e1 a) = .ok (q a))) →
    lcP tgt tt el env (xs.map f) acc = .ok (.lst (acc ++ (xs.filter p).map q))
  | [], acc, _ => by simp [lcP]
  | a :: xs, acc, h => by
    obtain ⟨h1, h2, h3⟩ := h a List.mem_cons_self
    have ih := fun acc => lcP_eq f e1 p q xs acc fun b hb => h b (List.mem_cons_of_mem _ hb)
    rw [List.map_cons]
    unfold lcP
    rw [h1]
    dsimp only
    rw [h2]
    cases hp : p a with
    | true =>
      dsimp only
      rw [h3 hp]
      dsimp only
      rw [ih, List.filter_cons_of_pos hp, List.map_cons, List.append_assoc]; rfl
    | false =>
      dsimp only
      rw [ih, List.filter_cons_of_neg (by simp [hp])]
/-! ### loops -/
theorem whl_step {c : En → R En (Bool × En)} {body : En → RS} {n : Nat} {env e1 e2 : En} (h1 : c env = .ok (true, e1)) (h2 : body e1 = .nx e2) : whl c body (n + 1) env = whl c body n e2 := by
  rw [whl, h1]
  dsimp only
  rw [h2]
theorem whl_done {c : En → R En (Bool × En)} {body : En → RS} {n : Nat} {env e1 : En} (h1 : c env = .ok (false, e1)) : whl c body (n + 1) env = .nx e1 := by
  rw [whl, h1]
theorem whl_rt {c : En → R En (Bool × En)} {body : En → RS} {n : Nat} {env e1 e2 : En} {d : O} (h1 : c env = .ok (true, e1)) (h2 : body e1 = .rt d e2) : whl c body (n + 1) env = .rt d e2 := by
  rw [whl, h1]
  dsimp only
  rw [h2]
theorem forL_step {tgt : D → En → Option En} {body : En → RS} {d : D} {ds : List D} {env e1 e2 : En} (h1 : tgt d env = some e1) (h2 : body e1 = .nx e2) : forL tgt body (d :: ds) env = forL tgt body ds e2 := by
  rw [forL, h1]
  dsimp only
  rw [h2]
theorem forL_rt {tgt : D → En → Option En} {body : En → RS} {d : D} {ds : List D} {env e1 e2 : En} {x : O} (h1 : tgt d env = some e1) (h2 : body e1 = .rt x e2) : forL tgt body (d :: ds) env = .rt x e2 := by
  rw [forL, h1]
  dsimp only
  rw [h2]
/-- a for that goes through, by an invariant -/
theorem forL_inv {tgt : D → En → Option En} {body : En → RS} {α : Type} (f : α → D) (Inv : List α → En → Prop) (hs : ∀ a rest env, Inv (a :: rest) env → ∃ e1 e2, tgt (f a) env = some e1 ∧ body e1 = .nx e2 ∧ Inv rest e2) : ∀ (xs : List α) (env : En), Inv xs env → ∃ e, forL tgt body (xs.map f) env = .nx e ∧ Inv [] e
  | [], env, h => ⟨env, by simp, h⟩
  | a :: xs, env, h => by
    obtain ⟨e1, e2, h1, h2, h3⟩ := hs a xs env h
    obtain ⟨e, h4, h5⟩ := forL_inv f Inv hs xs e2 h3
    exact ⟨e, by rw [List.map_cons, forL_step h1 h2, h4], h5⟩
end
end FD
namespace FD
noncomputable section
theorem cutG_none {α : Type} (xs : List α) (k : Nat) : cutG xs none (some (k : Int)) = xs.take k := by
  unfold cutG
  rw [HT.sIx_none, HT.sIx_nat, List.drop_zero, Nat.sub_zero]
  by_cases h : k ≤ xs.length
  · rw [Nat.min_eq_left h]
  · rw [Nat.min_eq_right (by omega), List.take_of_length_le (Nat.le_refl _), List.take_of_length_le (by omega)]
theorem cutG_from {α : Type} (xs : List α) (k : Nat) : cutG xs (some (k : Int)) none = xs.drop k := by
  unfold cutG
  rw [HT.sIx_none, HT.sIx_nat]
  by_cases h : k ≤ xs.length
  · rw [Nat.min_eq_left h, List.take_of_length_le (by rw [List.length_drop]; omega)]
  · rw [Nat.min_eq_right (by omega), List.drop_eq_nil_of_le (Nat.le_refl _), List.drop_eq_nil_of_le (by omega)]; simp
end
end FD
namespace FD
noncomputable section
open PySem L2
/-! ### x in ys -/
theorem itemsP_lst (ys : List D) : itemsP (.lst ys) = some ys := by unfold itemsP; rfl
theorem itemsP_tup (m : Bool) (ys : List D) : itemsP (.tup m ys) = some ys := by unfold itemsP; rfl
theorem okD_all_lst {ys : List D} (h : ys.all (okD 59) = true) : okD 60 (.lst ys) = true := h
theorem oIn_seq {x y : O} {ys : List D} (hy : itemsP y.frz = some ys) (h1 : okD 60 x.frz = true) (h2 : ys.all (okD 59) = true) : oIn x y = some (.sh (.bl (ys.any fun z => deq z x.frz))) := by
  unfold oIn orE oInT
  rw [hy, Option.bind_some, pyOk_of h1, pyOk_of (okD_all_lst h2)]; rfl
theorem oNotIn_seq {x y : O} {ys : List D} (hy : itemsP y.frz = some ys) (h1 : okD 60 x.frz = true) (h2 : ys.all (okD 59) = true) : oNotIn x y = some (.sh (.bl (!ys.any fun z => deq z x.frz))) := by
  unfold oNotIn orE oInT
  rw [hy, Option.bind_some, pyOk_of h1, pyOk_of (okD_all_lst h2)]; rfl
theorem any_ints (l : List Int) (i : Int) : ((l.map D.int).any fun z => deq z (.int i)) = l.contains i := by
  induction l with
  | nil => rfl
  | cons a r ih =>
    rw [List.map_cons, List.any_cons, ih, deq_int, List.contains_cons]
    have : decide (a = i) = (i == a) := by rw [Bool.beq_eq_decide_eq]; exact decide_eq_decide.mpr ⟨Eq.symm, Eq.symm⟩
    rw [this]
@[simp] theorem oNotIn_li (l : List Int) (i : Int) : oNotIn (.sh (.int i)) (.lst (l.map fun i => O.sh (.int i))) = some (.sh (.bl (!l.contains i))) := by
  rw [oNotIn_seq (ys := l.map D.int) (by rw [li_frz]; exact itemsP_lst _) (by rw [frz_sh]; exact okD_int 60 i) (ints_all 59 l), frz_sh, any_ints]
@[simp] theorem oIn_tupI (m : Bool) (l : List Int) (i : Int) : oIn (.sh (.int i)) (.sh (.tup m (l.map D.int))) = some (.sh (.bl (l.contains i))) := by
  rw [oIn_seq (ys := l.map D.int) (by rw [frz_sh]; exact itemsP_tup _ _) (by rw [frz_sh]; exact okD_int 60 i) (ints_all 59 l), frz_sh, any_ints]
@[simp] theorem oNotIn_tupI (m : Bool) (l : List Int) (i : Int) : oNotIn (.sh (.int i)) (.sh (.tup m (l.map D.int))) = some (.sh (.bl (!l.contains i))) := by
  rw [oNotIn_seq (ys := l.map D.int) (by rw [frz_sh]; exact itemsP_tup _ _) (by rw [frz_sh]; exact okD_int 60 i) (ints_all 59 l), frz_sh, any_ints]
@[simp] theorem oIn_lstI (l : List Int) (i : Int) : oIn (.sh (.int i)) (.sh (.lst (l.map D.int))) = some (.sh (.bl (l.contains i))) := by
  rw [oIn_seq (ys := l.map D.int) (by rw [frz_sh]; exact itemsP_lst _) (by rw [frz_sh]; exact okD_int 60 i) (ints_all 59 l), frz_sh, any_ints]
@[simp] theorem oNotIn_lstI (l : List Int) (i : Int) : oNotIn (.sh (.int i)) (.sh (.lst (l.map D.int))) = some (.sh (.bl (!l.contains i))) := by
  rw [oNotIn_seq (ys := l.map D.int) (by rw [frz_sh]; exact itemsP_lst _) (by rw [frz_sh]; exact okD_int 60 i) (ints_all 59 l), frz_sh, any_ints]
@[simp] theorem oNe_lstI_nil (l : List Int) : oNe (.sh (.lst (l.map D.int))) (.lst []) = some (.sh (.bl (!decide (l = [])))) := by
  have h : (O.lst []).frz = .lst [] := by simp
  rw [oNe_of (by rw [frz_sh]; exact ints_all 59 l) (by rw [h]; rfl), frz_sh, h, deq_lst]
  have := deqL_ints l []
  simp only [List.map_nil] at this
  rw [this]
@[simp] theorem oEq_lstI_nil (l : List Int) : oEq (.sh (.lst (l.map D.int))) (.lst []) = some (.sh (.bl (decide (l = [])))) := by
  have h : (O.lst []).frz = .lst [] := by simp
  rw [oEq_of (by rw [frz_sh]; exact ints_all 59 l) (by rw [h]; rfl), frz_sh, h, deq_lst]
  have := deqL_ints l []
  simp only [List.map_nil] at this
  rw [this]
theorem oAt_lst {α : Type} (f : α → D) (l : List α) (j : Nat) (a : α) (h : l[j]? = some a) : oAt (.sh (.lst (l.map f))) (.sh (.int (j : Int))) = some (.sh (f a)) := by
  refine oAt_seq (itemsD_lst _) ?_
  rw [atI_nat, List.getElem?_map, h]; rfl
theorem oAt_tup {α : Type} (m : Bool) (f : α → D) (l : List α) (j : Nat) (a : α) (h : l[j]? = some a) : oAt (.sh (.tup m (l.map f))) (.sh (.int (j : Int))) = some (.sh (f a)) := by
  refine oAt_seq (itemsD_tup m _) ?_
  rw [atI_nat, List.getElem?_map, h]; rfl
end
end FD
namespace FD
noncomputable section
open PySem L2
theorem oStar_none (n : Nat) (h : n ≤ 1000) : oStar (.lst [.sh .non]) (.sh (.int n)) = some (.lst (List.replicate n (.sh .non))) := by
  unfold oStar orE
  rw [show oMul (.lst [.sh .non]) (.sh (.int n)) = none from rfl]
  dsimp only
  unfold repL
  rw [show lstO (.lst [.sh .non]) = some [.non] from rfl, Option.bind_some, asI_int, Option.bind_some]
  have h1 : okI (n : Int) = true := okI_of (by omega) (by omega)
  have h3 : decide ([D.non].length * (n : Int).toNat ≤ lim) = true := decide_eq_true (by rw [lim_eq, sizeLine_eq]; simp; omega)
  have hc : (okI (n : Int) && decide ([D.non].length * (n : Int).toNat ≤ lim)) = true := by
    rw [Bool.and_eq_true]; exact ⟨h1, h3⟩
  rw [if_pos hc]
  have he : ∀ n : Nat, ((List.replicate n [D.non]).flatten.map O.sh) = List.replicate n (O.sh .non) := fun n => by
    induction n with
    | zero => rfl
    | succ n ih => rw [List.replicate_succ, List.flatten_cons, List.map_append, ih]; rfl
  exact congrArg (fun x => some (O.lst x)) (he n)
theorem oLen_lst (xs : List D) : oLen [.sh (.lst xs)] = some (.sh (.int xs.length)) := by
  unfold oLen
  simp [seqO]
theorem oLen_tup (m : Bool) (xs : List D) : oLen [.sh (.tup m xs)] = some (.sh (.int xs.length)) := by
  unfold oLen
  simp [seqO]
end
end FD


set_option Elab.async false
set_option linter.all false
set_option maxRecDepth 100000
/-! F24: the end. -/
namespace FD
open PySem L2
def spLaw (K : PySem.W.Frag) : Sp := fun vs H Q _ => ∃ (a : Addr) (ns : List Int), vs = [.ref a] ∧ SqL K H a (ns.map V.int) ∧ ns.length ≤ 63 ∧ ∀ H', Q (.bl true) H'
/-- every script gives True -/
def Always (T : List O → RC) : Prop := ∀ ns : List Int, ns.length ≤ 63 → ∃ fin, T [.sh (.frl (ns.map .int))] = .ok (.sh (.bl true)) fin
theorem spLaw_of {K : PySem.W.Frag} {W : Wd} {T : List O → RC} {pr : List Nat} (hk : ∀ p vs, KL K p vs → W.C.kl p vs) (ht : W.tabs = []) (hT : Always T) : ∀ vs H Q E, spLaw K vs H Q E → spC W 1 pr T vs H Q E := by
  rintro vs H Q E ⟨a, ns, rfl, hS, hlen, k⟩
  obtain ⟨fin, hf⟩ := hT ns hlen
  have hr : RpD W.C H (.frl (ns.map .int)) (.ref a) := by
    refine .frl (vs := ns.map V.int) ?_ (by simp) fun i d v h1 h2 => ?_
    · rcases hS with h | h
      · exact .inl h
      · exact .inr (hk _ _ h)
    · rw [List.getElem?_map] at h1 h2
      cases e : ns[i]? with
      | none => rw [e] at h1; cases h1
      | some x =>
        rw [e] at h1 h2
        cases h1; cases h2
        exact .int x
  refine ⟨H, [.sh (.frl (ns.map .int))], fun _ => Emp, fun _ _ h => h, (fun P hP => by rw [ht] at hP; cases hP), ⟨rfl, fun i d v h1 h2 => ?_, fun _ _ _ _ h => h.elim, fun _ _ h => h.elim⟩, rfl, ?_⟩
  · cases i with
    | zero =>
      cases h1; cases h2
      exact .sh hr fun _ h => h
    | succ i => cases h1
  · rw [hf]
    intro v G' H' F1 FB s r _ _
    cases r with
    | sh r _ =>
      cases r
      exact k H'
end FD


set_option Elab.async false
set_option linter.all false
set_option maxRecDepth 100000
/-! F30: the typed layer: values of Lean's own types in the place of data. -/
namespace FD.Ty
open PySem L2 FD

abbrev M (α : Type) := R Unit α
/-- r answers as t does, e its form -/
def EG {α β : Type} (r : R Unit β) (t : M α) (e : α → β) : Prop := match t with
  | .ok v => r = .ok (e v)
  | .exc c _ => r = .exc c ()
  | .stk => True
def EX {α β : Type} (r : R En (β × En)) (t : M α) (e : α → β) (E : α → En) : Prop := match t with
  | .ok v => r = .ok (e v, E v)
  | .exc c _ => ∃ e', r = .exc c e'
  | .stk => True
inductive TR (ρ κ σ : Type) where
  | nx (s : σ) | rt (v : ρ) | bk (s : κ) | ct (s : κ) | exc (c : Nat) | stk
def SR {ρ κ σ : Type} (r : RS) (t : TR ρ κ σ) (F : ρ → O → En → Prop) (L : κ → En → Prop) (B : σ → En → Prop) : Prop := match t with
  | .nx s => ∃ e, r = .nx e ∧ B s e
  | .rt v => ∃ d e, r = .rt d e ∧ F v d e
  | .bk s => ∃ e, r = .bk e ∧ L s e
  | .ct s => ∃ e, r = .ct e ∧ L s e
  | .exc c => ∃ e, r = .exc c e
  | .stk => True
def RF {ρ : Type} (n : Nat) (r : RC) (t : M ρ) (ev : ρ → O) (ef : ρ → List O) : Prop := match t with
  | .ok v => r = .ok (ev v) (ef v)
  | .exc c _ => ∃ fin, r = .exc c fin ∧ fin.length = n
  | .stk => True
@[simp] def thn {α ρ κ σ : Type} (t : M α) (k : α → TR ρ κ σ) : TR ρ κ σ := match t with
  | .ok v => k v
  | .exc c _ => .exc c
  | .stk => .stk
@[simp] def sq {ρ κ σ τ : Type} (t : TR ρ κ σ) (k : σ → TR ρ κ τ) : TR ρ κ τ := match t with
  | .nx s => k s
  | .rt v => .rt v
  | .bk s => .bk s
  | .ct s => .ct s
  | .exc c => .exc c
  | .stk => .stk
@[simp] def forT {α ρ κ σ : Type} (f : α → σ → TR ρ σ σ) : List α → σ → TR ρ κ σ
  | [], s => .nx s
  | a :: l, s => match f a s with
    | .nx s => forT f l s
    | .ct s => forT f l s
    | .bk s => .nx s
    | .rt v => .rt v
    | .exc c => .exc c
    | .stk => .stk
def whT {ρ κ σ : Type} (c : σ → M Bool) (f : σ → TR ρ σ σ) : Nat → σ → TR ρ κ σ
  | 0, _ => .stk
  | n + 1, s => match c s with
    | .ok true => match f s with
      | .nx s => whT c f n s
      | .ct s => whT c f n s
      | .bk s => .nx s
      | .rt v => .rt v
      | .exc c => .exc c
      | .stk => .stk
    | .ok false => .nx s
    | .exc c _ => .exc c
    | .stk => .stk
@[simp] def finT {ρ κ : Type} (t : TR ρ κ ρ) : M ρ := match t with
  | .nx s => .ok s
  | .rt v => .ok v
  | .exc c => .exc c ()
  | _ => .stk
/-- a list made from a list; what is raised there is not followed -/
def lcM {α β : Type} (p : α → M Bool) (f : α → M β) : List α → M (List β)
  | [] => .ok []
  | a :: l => match p a with
    | .ok true => match f a with
      | .ok x => match lcM p f l with
        | .ok r => .ok (x :: r)
        | _ => .stk
      | _ => .stk
    | .ok false => lcM p f l
    | _ => .stk
def lcX {α β σ : Type} (f : α → σ → M (β × σ)) : List α → σ → M (List β × σ)
  | [], s => .ok ([], s)
  | a :: l, s => match f a s with
    | .ok (x, s) => match lcX f l s with
      | .ok (r, s) => .ok (x :: r, s)
      | _ => .stk
    | _ => .stk

/-! ### forms -/
@[reducible] def sh {α : Type} (d : α → D) : α → O := fun v => .sh (d v)
@[reducible] def oL {α : Type} (e : α → O) : List α → O := fun l => .lst (l.map e)
@[reducible] def dI : Int → D := D.int
@[reducible] def dB : Bool → D := D.bl
@[reducible] def dS : Str → D := D.str
@[reducible] def dN : Unit → D := fun _ => .non
@[reducible] def dL {α : Type} (d : α → D) : List α → D := fun l => .lst (l.map d)
@[reducible] def dF {α : Type} (d : α → D) : List α → D := fun l => .frl (l.map d)
@[reducible] def dT {α : Type} (m : Bool) (d : α → D) : List α → D := fun l => .tup m (l.map d)
@[reducible] def dX {α : Type} (d : α → D) : Bool × List α → D := fun l => .tup l.1 (l.2.map d)
def dO {α : Type} (d : α → D) : Option α → D
  | some v => d v
  | none => .non
@[reducible] def dP0 : Unit → D := fun _ => .tup false []
@[reducible] def dP2 {α β : Type} (d1 : α → D) (d2 : β → D) : α × β → D := fun v => .tup false [d1 v.1, d2 v.2]
@[reducible] def dP3 {α β γ : Type} (d1 : α → D) (d2 : β → D) (d3 : γ → D) : α × β × γ → D := fun v => .tup false [d1 v.1, d2 v.2.1, d3 v.2.2]
@[reducible] def dP4 {α β γ δ : Type} (d1 : α → D) (d2 : β → D) (d3 : γ → D) (d4 : δ → D) : α × β × γ × δ → D := fun v => .tup false [d1 v.1, d2 v.2.1, d3 v.2.2.1, d4 v.2.2.2]
@[reducible] def dK {α : Type} (d : α → D) : List (Int × α) → D := fun l => .dK (l.map fun p => (.inl p.1, d p.2))

section
variable {α β γ δ ρ κ σ τ : Type}
/-! ### pure -/
theorem EG.of {r : R Unit β} {v : α} {e : α → β} (h : r = .ok (e v)) : EG r (.ok v) e := h
theorem EG.eq {r : R Unit β} {v : α} {e : α → β} (h : EG r (.ok v) e) : r = .ok (e v) := h
theorem EG.bind {r : R Unit β} {t : M α} {e : α → β} {f : β → R Unit δ} {k : α → M γ} {e' : γ → δ} (h : EG r t e) (h2 : ∀ v, EG (f (e v)) (k v) e') : EG (r.bind f) (t.bind k) e' := by
  cases t with
  | ok v => rw [show r = .ok (e v) from h]; exact h2 v
  | exc c u => rw [show r = .exc c () from h]; exact rfl
  | stk => trivial
theorem EG.bindp {r : R Unit β} {v : α} {e : α → β} {f : β → R Unit δ} {k : M γ} {e' : γ → δ} (h : EG r (.ok v) e) (h2 : EG (f (e v)) k e') : EG (r.bind f) k e' := by
  rw [show r = .ok (e v) from h]; exact h2
theorem EG.co {r : R Unit β} {t : M α} {e : α → β} (f : α → γ) (e' : γ → β) (h : EG r t e) (hc : ∀ v, e v = e' (f v)) : EG r (t.bind fun v => .ok (f v)) e' := by
  cases t with
  | ok v => rw [show r = .ok (e v) from h, hc]; exact rfl
  | exc c u => rw [show r = .exc c () from h]; exact rfl
  | stk => trivial
theorem EG.cop {r : R Unit β} {v : α} {e : α → β} (f : α → γ) (e' : γ → β) (h : EG r (.ok v) e) (hc : ∀ v, e v = e' (f v)) : EG r (.ok (f v)) e' := by
  rw [show r = .ok (e v) from h, hc]; exact rfl
theorem EG.frz {r : RP} {t : M α} {e : α → O} {d : α → D} {env : En} {f : En → RP} (h : EG (f env) t e) (hf : ∀ v, (e v).frz = d v) : EG (bFrz f env) t (sh d) := by
  unfold bFrz
  cases t with
  | ok v => rw [show f env = .ok (e v) from h, bind_ok, hf]; exact rfl
  | exc c u => rw [show f env = .exc c () from h]; exact rfl
  | stk => trivial
theorem fz_sh (d : α → D) (v : α) : (sh d v).frz = d v := frz_sh _
theorem fz_oL {e : α → O} {d : α → D} (h : ∀ v, (e v).frz = d v) (l : List α) : (oL e l).frz = dL d l := by
  show (O.lst (l.map e)).frz = .lst (l.map d)
  rw [frz_lst, List.map_map]
  congr 1
  exact List.map_congr_left fun a _ => h a
theorem EG_bT {f : En → RP} {env : En} {t : M Bool} (h : EG (f env) t (sh dB)) : EG (bT f env) t id := by
  unfold bT
  cases t with
  | ok v => rw [show f env = .ok (sh dB v) from h]; exact rfl
  | exc c u => rw [show f env = .exc c () from h]; exact rfl
  | stk => trivial
theorem EG_bOfT {f : En → RB} {env : En} {t : M Bool} (h : EG (f env) t id) : EG (bOfT f env) t (sh dB) := by
  unfold bOfT
  cases t with
  | ok v => rw [show f env = .ok v from h]; exact rfl
  | exc c u => rw [show f env = .exc c () from h]; exact rfl
  | stk => trivial
theorem EG_notp {f : En → RB} {env : En} {b : Bool} (h : EG (f env) (.ok b) id) : EG (bNot f env) (.ok (!b)) id := by
  unfold bNot
  rw [show f env = .ok b from h]; exact rfl
theorem EG_not {f : En → RB} {env : En} {t : M Bool} (h : EG (f env) t id) : EG (bNot f env) (t.bind fun b => .ok (!b)) id := by
  unfold bNot
  exact h.bind fun v => EG.of rfl
theorem EG_andp {f g : En → RB} {env : En} {a b : Bool} (h : EG (f env) (.ok a) id) (h2 : EG (g env) (.ok b) id) : EG (bAnd f g env) (.ok (a && b)) id := by
  unfold bAnd
  rw [show f env = .ok a from h]
  cases a with
  | true => exact h2
  | false => exact rfl
theorem EG_and {f g : En → RB} {env : En} {t u : M Bool} (h : EG (f env) t id) (h2 : EG (g env) u id) : EG (bAnd f g env) (t.bind fun a => grd a u (.ok false)) id := by
  unfold bAnd
  refine h.bind fun a => ?_
  cases a with
  | true => exact h2
  | false => exact rfl
theorem EG_orp {f g : En → RB} {env : En} {a b : Bool} (h : EG (f env) (.ok a) id) (h2 : EG (g env) (.ok b) id) : EG (bOr f g env) (.ok (a || b)) id := by
  unfold bOr
  rw [show f env = .ok a from h]
  cases a with
  | true => exact rfl
  | false => exact h2
theorem EG_or {f g : En → RB} {env : En} {t u : M Bool} (h : EG (f env) t id) (h2 : EG (g env) u id) : EG (bOr f g env) (t.bind fun a => grd a (.ok true) u) id := by
  unfold bOr
  refine h.bind fun a => ?_
  cases a with
  | true => exact rfl
  | false => exact h2
theorem EG_ifp {c : En → RB} {f g : En → RP} {env : En} {b : Bool} {x y : α} {e : α → O} (h : EG (c env) (.ok b) id) (h1 : EG (f env) (.ok x) e) (h2 : EG (g env) (.ok y) e) : EG (bIf c f g env) (.ok (if b then x else y)) e := by
  unfold bIf
  rw [show c env = .ok b from h]
  cases b with
  | true => exact h1
  | false => exact h2
theorem EG_if {c : En → RB} {f g : En → RP} {env : En} {t : M Bool} {x y : M α} {e : α → O} (h : EG (c env) t id) (h1 : EG (f env) x e) (h2 : EG (g env) y e) : EG (bIf c f g env) (t.bind fun b => grd b x y) e := by
  unfold bIf
  refine h.bind fun a => ?_
  cases a with
  | true => exact h1
  | false => exact h2
theorem EG_chainp {go go' : O → O → Option O} {f g h : En → RP} {env : En} {a b : Bool} {x y z : O} (h1 : EG (f env) (.ok ()) fun _ => x) (h2 : EG (g env) (.ok ()) fun _ => y) (h3 : EG (h env) (.ok ()) fun _ => z)
    (k1 : go x y = some (.sh (.bl a))) (k2 : go' y z = some (.sh (.bl b))) : EG (bChain go go' f g h env) (.ok (a && b)) (sh dB) := by
  unfold bChain
  rw [show f env = .ok x from h1, show g env = .ok y from h2, bind_ok, bind_ok, k1, show h env = .ok z from h3]
  cases a with
  | true =>
    show ofO (go' y z) = _
    rw [k2]; rfl
  | false => exact rfl
theorem EG.unit {r : R Unit β} {v : α} {e : α → β} (h : EG r (.ok v) e) : EG r (.ok ()) fun _ => e v := h
/-! names -/
theorem EG_var {i : Nat} {env : En} {v : α} {e : α → O} (h : gt env i = some (e v)) : EG (bVar i env) (.ok v) e := by
  unfold bVar; rw [h]; exact rfl
theorem EG_sh {i : Nat} {env : En} {v : α} {d : α → D} (h : gt env i = some (.sh (d v))) : EG (bSh i env) (.ok v) (sh d) := by
  unfold bSh; rw [h]; exact rfl
theorem EG_asSh {f : En → RP} {env : En} {t : M α} {d : α → D} (h : EG (f env) t (sh d)) : EG (bAsSh f env) t (sh d) := by
  unfold bAsSh
  cases t with
  | ok v => rw [show f env = .ok (sh d v) from h]; exact rfl
  | exc c u => rw [show f env = .exc c () from h]; exact rfl
  | stk => trivial
/-! ### effects -/
theorem EX.of {r : R En (β × En)} {v : α} {e : α → β} {E : α → En} (h : r = .ok (e v, E v)) : EX r (.ok v) e E := h
theorem EX.bind {r : R En (β × En)} {t : M α} {e : α → β} {E : α → En} {f : β × En → R En (δ × En)} {k : α → M γ} {e' : γ → δ} {E' : γ → En} (h : EX r t e E) (h2 : ∀ v, EX (f (e v, E v)) (k v) e' E') : EX (r.bind f) (t.bind k) e' E' := by
  cases t with
  | ok v => rw [show r = .ok (e v, E v) from h]; exact h2 v
  | exc c u => obtain ⟨e1, h⟩ := h; rw [h]; exact ⟨e1, rfl⟩
  | stk => trivial
theorem EX.bindp {r : R En (β × En)} {v : α} {e : α → β} {E : α → En} {f : β × En → R En (δ × En)} {k : M γ} {e' : γ → δ} {E' : γ → En} (h : EX r (.ok v) e E) (h2 : EX (f (e v, E v)) k e' E') : EX (r.bind f) k e' E' := by
  rw [show r = .ok (e v, E v) from h]; exact h2
theorem EX_pE {f : En → RP} {env : En} {t : M α} {e : α → O} (h : EG (f env) t e) : EX (pE f env) t e (fun _ => env) := by
  unfold pE
  cases t with
  | ok v => rw [show f env = .ok (e v) from h]; exact rfl
  | exc c u => rw [show f env = .exc c () from h]; exact ⟨env, rfl⟩
  | stk => trivial
theorem EX.frz {f : En → RE} {env : En} {t : M α} {e : α → O} {E : α → En} {d : α → D} (h : EX (f env) t e E) (hf : ∀ v, (e v).frz = d v) : EX (eFrz f env) t (sh d) E := by
  unfold eFrz
  cases t with
  | ok v => rw [show f env = .ok (e v, E v) from h, bind_ok, hf]; exact rfl
  | exc c u => obtain ⟨e1, h⟩ := h; rw [h]; exact ⟨e1, rfl⟩
  | stk => trivial
theorem EX.co {r : R En (β × En)} {t : M α} {e : α → β} {E : α → En} (f : α → γ) (e' : γ → β) (E' : γ → En) (h : EX r t e E) (hc : ∀ v, e v = e' (f v)) (hE : ∀ v, E v = E' (f v)) : EX r (t.bind fun v => .ok (f v)) e' E' := by
  cases t with
  | ok v => rw [show r = .ok (e v, E v) from h, hc, hE]; exact rfl
  | exc c u => exact h
  | stk => trivial
def finO (o : Option O) (env : En) : RE := match o with
  | some z => .ok (z, env)
  | none => .stk
theorem EX_ofM {o : Option O} {t : M α} {e : α → O} {env : En} (h : EG (ofO o) t e) : EX (finO o env) t e (fun _ => env) := by
  cases o with
  | none =>
    cases t with
    | ok v => cases h
    | exc c u => cases h
    | stk => trivial
  | some z =>
    cases t with
    | ok v => have : (R.ok z : RP) = .ok (e v) := h; cases this; exact rfl
    | exc c u => cases h
    | stk => trivial
theorem EX_lend {β : Type} {i : Nat} {g : En → R En (List O × En)} {env : En} {d : O} {t : M α} {e : α → List O} {E : α → En} (hg : gt env i = some d) (h : EX (g (env.set i none)) t e E) : EX (nLend i g env) t (fun v => d :: e v) E := by
  unfold nLend
  rw [hg]
  dsimp only
  cases t with
  | ok v => rw [show g (env.set i none) = .ok (e v, E v) from h]; exact rfl
  | exc c u => obtain ⟨e1, h⟩ := h; rw [h]; exact ⟨e1, rfl⟩
  | stk => trivial
theorem EX_nil {env : En} : EX (nNil env) (.ok ()) (fun _ => []) (fun _ => env) := rfl
theorem EX_consp {f : En → RE} {g : En → R En (List O × En)} {env : En} {x : α} {e : α → O} {E : α → En} {t : M γ} {e2 : γ → List O} {E2 : γ → En} (h : EX (f env) (.ok x) e E) (h2 : EX (g (E x)) t e2 E2) : EX (nCons f g env) t (fun v => e x :: e2 v) E2 := by
  unfold nCons
  rw [show f env = .ok (e x, E x) from h, bind_ok]
  cases t with
  | ok v => rw [show g (E x) = .ok (e2 v, E2 v) from h2]; exact rfl
  | exc c u => obtain ⟨e1, h⟩ := h2; rw [h]; exact ⟨e1, rfl⟩
  | stk => trivial
theorem EX_cons {f : En → RE} {g : En → R En (List O × En)} {env : En} {s : M α} {e : α → O} {E : α → En} {t : α → M γ} {e2 : γ → List O} {E2 : α × γ → En} (h : EX (f env) s e E) (h2 : ∀ x, EX (g (E x)) (t x) e2 (fun v => E2 (x, v))) :
    EX (nCons f g env) (s.bind fun x => (t x).bind fun v => .ok (x, v)) (fun p => e p.1 :: e2 p.2) E2 := by
  unfold nCons
  refine h.bind fun x => ?_
  refine (h2 x).bind fun v => ?_
  exact rfl
theorem EX_consm {f : En → RE} {g : En → R En (List O × En)} {env : En} {s : M α} {e : α → O} {E : α → En} {u : γ} {e2 : γ → List O} {E2 : γ → α → En} (h : EX (f env) s e E) (h2 : ∀ x, EX (g (E x)) (.ok u) e2 (fun v => E2 v x)) : EX (nCons f g env) s (fun x => e x :: e2 u) (E2 u) := by
  unfold nCons
  cases s with
  | ok v => rw [show f env = .ok (e v, E v) from h, bind_ok, show g (E v) = .ok (e2 u, E2 u v) from h2 v]; exact rfl
  | exc c w => obtain ⟨e1, h⟩ := h; rw [h]; exact ⟨e1, rfl⟩
  | stk => trivial
theorem EX_call {n : Nat} {T : List O → RC} {bk : List (Nat × Nat)} {h : En → R En (List O × En)} {env : En} {a : α} {e : α → List O} {E : α → En} {t : M ρ} {ev : ρ → O} {ef : ρ → List O} {E' : ρ → En} (hh : EX (h env) (.ok a) e E) (hT : RF n (T (e a)) t ev ef)
    (hp : ∀ v, putB bk (ef v) (E a) = some (E' v)) (hx : ∀ fin : List O, fin.length = n → ∃ e, putB bk fin (E a) = some e) : EX (eCall T bk h env) t ev E' := by
  unfold eCall
  rw [show h env = .ok (e a, E a) from hh, bind_ok]
  cases t with
  | ok v =>
    dsimp only
    rw [show T (e a) = .ok (ev v) (ef v) from hT]
    dsimp only
    rw [hp]; exact rfl
  | exc c u =>
    obtain ⟨fin, h1, h2⟩ := hT
    obtain ⟨e1, h3⟩ := hx fin h2
    dsimp only
    rw [h1]
    dsimp only
    rw [h3]; exact ⟨e1, rfl⟩
  | stk => trivial
theorem putx_nil (e : En) (fin : List O) (_ : fin.length = 0) : ∃ e', putB [] fin e = some e' := ⟨e, rfl⟩
theorem putx_one (i : Nat) (e : En) : ∀ (fin : List O) (_ : fin.length = 1), ∃ e', putB [(i, 0)] fin e = some e'
  | [x], _ => ⟨_, rfl⟩
end
end FD.Ty


set_option Elab.async false
set_option linter.all false
set_option maxRecDepth 100000
/-! F31: arguments, calls, comprehensions, statements. -/
namespace FD.Ty
open PySem L2 FD
section
variable {α β γ δ ρ κ σ τ : Type}
/-! ### arguments, calls -/
theorem EG_nil {env : En} : EG (aNil env) (.ok ()) (fun _ => []) := rfl
theorem EG_consp {f : En → RP} {g : En → R Unit (List O)} {env : En} {x : α} {e : α → O} {t : M γ} {e2 : γ → List O} (h : EG (f env) (.ok x) e) (h2 : EG (g env) t e2) : EG (aCons f g env) t (fun v => e x :: e2 v) := by
  unfold aCons
  rw [show f env = .ok (e x) from h, bind_ok]
  cases t with
  | ok v => rw [show g env = .ok (e2 v) from h2]; exact rfl
  | exc c u => rw [show g env = .exc c () from h2]; exact rfl
  | stk => trivial
theorem EG_cons {f : En → RP} {g : En → R Unit (List O)} {env : En} {s : M α} {e : α → O} {t : M γ} {e2 : γ → List O} (h : EG (f env) s e) (h2 : EG (g env) t e2) : EG (aCons f g env) (s.bind fun x => t.bind fun v => .ok (x, v)) (fun p => e p.1 :: e2 p.2) := by
  unfold aCons
  exact h.bind fun x => h2.bind fun v => rfl
theorem EG_consm {f : En → RP} {g : En → R Unit (List O)} {env : En} {s : M α} {e : α → O} {u : γ} {e2 : γ → List O} (h : EG (f env) s e) (h2 : EG (g env) (.ok u) e2) : EG (aCons f g env) s (fun x => e x :: e2 u) := by
  unfold aCons
  cases s with
  | ok v => rw [show f env = .ok (e v) from h, bind_ok, show g env = .ok (e2 u) from h2]; exact rfl
  | exc c u => rw [show f env = .exc c () from h]; exact rfl
  | stk => trivial
theorem EG_bN {go : List O → Option O} {f : En → R Unit (List O)} {env : En} {t : M α} {e : α → List O} {k : α → M γ} {e' : γ → O} (h : EG (f env) t e) (ho : ∀ v, EG (ofO (go (e v))) (k v) e') : EG (bN go f env) (t.bind k) e' := h.bind ho
theorem EG_bNp {go : List O → Option O} {f : En → R Unit (List O)} {env : En} {v : α} {e : α → List O} {k : M γ} {e' : γ → O} (h : EG (f env) (.ok v) e) (ho : EG (ofO (go (e v))) k e') : EG (bN go f env) k e' := h.bindp ho
theorem EG_b2 {go : O → O → Option O} {f g : En → RP} {env : En} {t : M γ} {e : γ → O} (h : EG ((f env).bind fun x => (g env).bind fun y => ofO (go x y)) t e) : EG (b2 go f g env) t e := h
theorem EG_b1 {go : O → Option O} {f : En → RP} {env : En} {t : M γ} {e : γ → O} (h : EG ((f env).bind fun x => ofO (go x)) t e) : EG (b1 go f env) t e := h
theorem callP_ok {n : Nat} {T : List O → RC} {ds : List O} {xs : List D} {t : M ρ} {ev : ρ → O} {ef : ρ → List O} (hs : allSh ds = some xs) (hT : RF n (T ds) t ev ef) : EG (callP T ds) t ev := by
  unfold callP
  rw [hs]
  dsimp only
  cases t with
  | ok v => rw [show T ds = .ok (ev v) (ef v) from hT]; exact rfl
  | exc c u => obtain ⟨fin, h, _⟩ := hT; rw [h]; exact rfl
  | stk => trivial
theorem EG_callp {n : Nat} {T : List O → RC} {f : En → R Unit (List O)} {env : En} {v : α} {e : α → List O} {xs : List D} {t : M ρ} {ev : ρ → O} {ef : ρ → List O} (h : EG (f env) (.ok v) e) (hs : allSh (e v) = some xs) (hT : RF n (T (e v)) t ev ef) : EG (bCall T f env) t ev := h.bindp (callP_ok hs hT)
theorem EG_call {n : Nat} {T : List O → RC} {f : En → R Unit (List O)} {env : En} {s : M α} {e : α → List O} {xs : α → List D} {t : α → M ρ} {ev : ρ → O} {ef : ρ → List O} (h : EG (f env) s e) (hs : ∀ v, allSh (e v) = some (xs v)) (hT : ∀ v, RF n (T (e v)) (t v) ev ef) : EG (bCall T f env) (s.bind t) ev := h.bind fun v => callP_ok (hs v) (hT v)
theorem EG_methp {n c : Nat} {m : Str} {T : List O → RC} {f : En → RP} {g : En → R Unit (List O)} {env : En} {x : β} {e : β → O} {v : α} {eg : α → List O} {xs : List D} {t : M ρ} {ev : ρ → O} {ef : ρ → List O} (hf : EG (f env) (.ok x) e) (hi : insOf c m (e x) = true) (hg : EG (g env) (.ok v) eg)
    (hs : allSh (e x :: eg v) = some xs) (hT : RF n (T (e x :: eg v)) t ev ef) : EG (bMeth c m T f g env) t ev := by
  unfold bMeth
  refine hf.bindp ?_
  rw [if_pos hi]
  exact hg.bindp (callP_ok hs hT)
theorem EG_meth {n c : Nat} {m : Str} {T : List O → RC} {f : En → RP} {g : En → R Unit (List O)} {env : En} {s : M β} {e : β → O} {u : M α} {eg : α → List O} {xs : β → α → List D} {t : β → α → M ρ} {ev : ρ → O} {ef : ρ → List O} (hf : EG (f env) s e) (hi : ∀ x, insOf c m (e x) = true) (hg : EG (g env) u eg)
    (hs : ∀ x v, allSh (e x :: eg v) = some (xs x v)) (hT : ∀ x v, RF n (T (e x :: eg v)) (t x v) ev ef) : EG (bMeth c m T f g env) (s.bind fun x => u.bind fun v => t x v) ev := by
  unfold bMeth
  refine hf.bind fun x => ?_
  rw [if_pos (hi x)]
  exact hg.bind fun v => callP_ok (hs x v) (hT x v)
theorem EG_fldp {cs : List Nat} {f : Str} {g : En → RP} {env : En} {c : Nat} {x : α} {e : α → O} {y : γ} {e' : γ → O} (h : EG (g env) (.ok x) e) (hc : insC (e x) = some c) (hcs : cs.contains c = true) (hf : fldO f (e x) = some (e' y)) : EG (bFldC cs f g env) (.ok y) e' := by
  unfold bFldC
  refine h.bindp ?_
  rw [hc]
  dsimp only
  rw [if_pos hcs, hf]; exact rfl
theorem EG_fld {cs : List Nat} {f : Str} {g : En → RP} {env : En} {c : Nat} {t : M α} {e : α → O} {y : α → γ} {e' : γ → O} (h : EG (g env) t e) (hc : ∀ x, insC (e x) = some c) (hcs : cs.contains c = true) (hf : ∀ x, fldO f (e x) = some (e' (y x))) : EG (bFldC cs f g env) (t.bind fun x => .ok (y x)) e' := by
  unfold bFldC
  refine h.bind fun x => ?_
  rw [hc]
  dsimp only
  rw [if_pos hcs, hf]; exact rfl
/-! ### bounds, slices -/
theorem EG_pI {f : En → RP} {env : En} {t : M Int} (h : EG (f env) t (sh dI)) : EG (pI f env) t some := by
  unfold pI
  cases t with
  | ok v => rw [show f env = .ok (sh dI v) from h]; exact rfl
  | exc c u => rw [show f env = .exc c () from h]; exact rfl
  | stk => trivial
theorem EG_pNo {env : En} : EG (pNo env) (.ok ()) (fun _ => none) := rfl
theorem EG_bSl {f : En → RP} {l h : En → R Unit (Option Int)} {env : En} {t : M γ} {e : γ → O} (k : EG ((f env).bind fun x => (l env).bind fun a => (h env).bind fun b => ofO (oSl x a b)) t e) : EG (bSl f l h env) t e := k
theorem EG_bSlS {f : En → RP} {l h : En → R Unit (Option Int)} {env : En} {t : M γ} {e : γ → O} (k : EG ((f env).bind fun x => (l env).bind fun a => (h env).bind fun b => ofO (oSlS x a b)) t e) : EG (bSlS f l h env) t e := k
/-! ### iterables -/
def rngT (a b : Int) : List Int := (List.range (b - a).toNat).map fun (i : Nat) => a + (i : Nat)
theorem rngD_map (a b : Int) : rngD a b = (rngT a b).map dI := by unfold rngD rngT; rw [List.map_map]; rfl
def enumT (l : List α) : List (Int × α) := l.mapIdx fun i a => ((i : Int), a)
theorem enumD_map (d : α → D) (l : List α) : enumD (l.map d) = (enumT l).map (dP2 dI d) := by
  unfold enumD enumT
  apply List.ext_getElem?
  intro j
  rw [List.getElem?_mapIdx, List.getElem?_map, List.getElem?_map, List.getElem?_mapIdx]
  cases l[j]? <;> rfl
theorem EG_jLst {f : En → RP} {env : En} {t : M (List α)} {d : α → D} (h : EG (f env) t (sh (dL d))) : EG (jSeq f env) t (List.map d) := by
  unfold jSeq
  cases t with
  | ok v => rw [show f env = .ok (sh (dL d) v) from h]; exact rfl
  | exc c u => rw [show f env = .exc c () from h]; exact rfl
  | stk => trivial
theorem EG_jTup {f : En → RP} {env : En} {t : M (List α)} {m : Bool} {d : α → D} (h : EG (f env) t (sh (dT m d))) : EG (jSeq f env) t (List.map d) := by
  unfold jSeq
  cases t with
  | ok v => rw [show f env = .ok (sh (dT m d) v) from h]; exact rfl
  | exc c u => rw [show f env = .exc c () from h]; exact rfl
  | stk => trivial
theorem EG_jX {f : En → RP} {env : En} {t : M (Bool × List α)} {d : α → D} (h : EG (f env) t (sh (dX d))) : EG (jSeq f env) (t.bind fun x => .ok x.2) (List.map d) := by
  unfold jSeq
  exact h.bind fun v => rfl
theorem EG_jEnumOf {f : En → RP} {env : En} {t : M (List α)} {d : α → D} (h : EG (jSeq f env) t (List.map d)) : EG (jEnum f env) (t.bind fun l => .ok (enumT l)) (List.map (dP2 dI d)) := by
  unfold jSeq at h
  unfold jEnum
  cases e1 : f env with
  | ok x =>
    rw [e1, bind_ok] at h
    rw [bind_ok]
    cases e2 : itD x with
    | none =>
      rw [e2] at h
      cases t with
      | ok v => cases h
      | exc c u => cases h
      | stk => trivial
    | some ds =>
      rw [e2] at h
      cases t with
      | ok v =>
        have : (R.ok ds : R Unit (List D)) = .ok (v.map d) := h
        cases this
        show ofO (some (enumD (v.map d))) = .ok _
        rw [enumD_map]; rfl
      | exc c u => cases h
      | stk => trivial
  | exc c u =>
    rw [e1, bind_exc] at h
    rw [bind_exc]
    cases t with
    | ok v => cases h
    | exc c' u' => exact h
    | stk => trivial
  | stk =>
    rw [e1, bind_stk] at h
    cases t with
    | ok v => cases h
    | exc c' u' => cases h
    | stk => trivial
theorem EG_jEnump {f : En → RP} {env : En} {l : List α} {d : α → D} (h : EG (jSeq f env) (.ok l) (List.map d)) : EG (jEnum f env) (.ok (enumT l)) (List.map (dP2 dI d)) := EG_jEnumOf h
theorem EG_jR1 {f : En → RP} {env : En} {t : M Int} (h : EG (f env) t (sh dI)) : EG (jRange1 f env) (t.bind fun j => grd (okI j) (.ok (rngT 0 j)) .stk) (List.map dI) := by
  unfold jRange1
  refine h.bind fun j => ?_
  show EG (ofO (if okI j = true then some (rngD 0 j) else none)) _ _
  cases okI j with
  | true => show ofO (some (rngD 0 j)) = _; rw [rngD_map]; rfl
  | false => trivial
theorem EG_jR1p {f : En → RP} {env : En} {j : Int} (h : EG (f env) (.ok j) (sh dI)) : EG (jRange1 f env) (grd (okI j) (.ok (rngT 0 j)) .stk) (List.map dI) := EG_jR1 h
theorem EG_jR2 {f g : En → RP} {env : En} {s t : M Int} (h : EG (f env) s (sh dI)) (h2 : EG (g env) t (sh dI)) : EG (jRange2 f g env) (s.bind fun i => t.bind fun j => grd (okI i && okI j) (.ok (rngT i j)) .stk) (List.map dI) := by
  unfold jRange2
  refine h.bind fun i => h2.bind fun j => ?_
  show EG (ofO (if (okI i && okI j) = true then some (rngD i j) else none)) _ _
  cases okI i && okI j with
  | true => show ofO (some (rngD i j)) = _; rw [rngD_map]; rfl
  | false => trivial
theorem EG_jR2p {f g : En → RP} {env : En} {i j : Int} (h : EG (f env) (.ok i) (sh dI)) (h2 : EG (g env) (.ok j) (sh dI)) : EG (jRange2 f g env) (grd (okI i && okI j) (.ok (rngT i j)) .stk) (List.map dI) := EG_jR2 h h2
theorem allSh_sh (d : α → D) (l : List α) : allSh (l.map (sh d)) = some (l.map d) := by
  rw [show l.map (sh d) = (l.map d).map O.sh from by rw [List.map_map]; rfl, allSh_map]
theorem EG_jOwn {i : Nat} {env : En} {l : List α} {d : α → D} (h : gt env i = some (oL (sh d) l)) : EG (jOwn i env) (.ok l) (List.map d) := by
  unfold jOwn
  rw [h]
  show ofO (allSh (l.map (sh d))) = _
  rw [allSh_sh]; rfl
/-! ### comprehensions -/
theorem lcP_ok {tgt : D → En → Option En} {tt : En → RB} {elt : En → RP} {env : En} {d : α → D} {p : α → M Bool} {f : α → M β} {e : β → O} (hb : ∀ a, ∃ e1, tgt (d a) env = some e1 ∧ EG (tt e1) (p a) id ∧ EG (elt e1) (f a) e) :
    ∀ (l : List α) (acc : List O), EG (lcP tgt tt elt env (l.map d) acc) (lcM p f l) (fun r => .lst (acc ++ r.map e))
  | [], acc => by
    show _ = R.ok (O.lst (acc ++ []))
    rw [List.append_nil]; rfl
  | a :: l, acc => by
    obtain ⟨e1, h1, h2, h3⟩ := hb a
    rw [List.map_cons]
    unfold lcP
    rw [h1]
    dsimp only
    unfold lcM
    cases hp : p a with
    | ok b =>
      rw [hp] at h2
      rw [show tt e1 = .ok b from h2]
      cases b with
      | false => exact lcP_ok hb l acc
      | true =>
        dsimp only
        cases hf : f a with
        | ok x =>
          rw [hf] at h3
          rw [show elt e1 = .ok (e x) from h3]
          dsimp only
          have ih := lcP_ok hb l (acc ++ [e x])
          cases hl : lcM p f l with
          | ok r =>
            rw [hl] at ih
            rw [show lcP tgt tt elt env (l.map d) (acc ++ [e x]) = .ok (.lst (acc ++ [e x] ++ r.map e)) from ih]
            show R.ok _ = R.ok _
            rw [List.append_assoc]; rfl
          | exc c u => trivial
          | stk => trivial
        | exc c u => trivial
        | stk => trivial
    | exc c u => trivial
    | stk => trivial
theorem EG_lcm {vs : List Nat} {it : En → R Unit (List D)} {tgt : D → En → Option En} {tt : En → RB} {elt : En → RP} {env : En} {t : M (List α)} {d : α → D} {p : α → M Bool} {f : α → M β} {e : β → O} (hi : EG (it env) t (List.map d))
    (hb : ∀ a, ∃ e1, tgt (d a) (wipeE env vs) = some e1 ∧ EG (tt e1) (p a) id ∧ EG (elt e1) (f a) e) : EG (bLc vs it tgt tt elt env) (t.bind fun l => grd (szOk l.length) (lcM p f l) .stk) (oL e) := by
  unfold bLc
  refine hi.bind fun l => ?_
  rw [List.length_map]
  have := lcP_ok hb l []
  simp only [List.nil_append] at this
  cases szOk l.length with
  | true => exact this
  | false => trivial
theorem EG_lcmp {vs : List Nat} {it : En → R Unit (List D)} {tgt : D → En → Option En} {tt : En → RB} {elt : En → RP} {env : En} {l : List α} {d : α → D} {p : α → M Bool} {f : α → M β} {e : β → O} (hi : EG (it env) (.ok l) (List.map d))
    (hb : ∀ a, ∃ e1, tgt (d a) (wipeE env vs) = some e1 ∧ EG (tt e1) (p a) id ∧ EG (elt e1) (f a) e) : EG (bLc vs it tgt tt elt env) (grd (szOk l.length) (lcM p f l) .stk) (oL e) := EG_lcm hi hb
theorem lcM_pure (p : α → Bool) (f : α → β) : ∀ l : List α, lcM (fun a => .ok (p a)) (fun a => .ok (f a)) l = .ok ((l.filter p).map f)
  | [] => rfl
  | a :: l => by
    unfold lcM
    dsimp only
    cases h : p a with
    | true =>
      dsimp only
      rw [lcM_pure p f l]
      dsimp only
      rw [List.filter_cons_of_pos h]; rfl
    | false =>
      dsimp only
      rw [lcM_pure p f l, List.filter_cons_of_neg (by rw [h]; exact Bool.false_ne_true)]
theorem EG_lcp {vs : List Nat} {it : En → R Unit (List D)} {tgt : D → En → Option En} {tt : En → RB} {elt : En → RP} {env : En} {l : List α} {d : α → D} {p : α → Bool} {f : α → β} {e : β → O} (hi : EG (it env) (.ok l) (List.map d))
    (hb : ∀ a, ∃ e1, tgt (d a) (wipeE env vs) = some e1 ∧ EG (tt e1) (.ok (p a)) id ∧ EG (elt e1) (.ok (f a)) e) : EG (bLc vs it tgt tt elt env) (grd (szOk l.length) (.ok ((l.filter p).map f)) .stk) (oL e) := by
  have := EG_lcm hi hb
  rw [← lcM_pure p f l]
  exact this
theorem EG_lcy {vs : List Nat} {it : En → R Unit (List D)} {tgt : D → En → Option En} {elt : En → RP} {env : En} {l : List α} {d : α → D} {f : α → β} {e : β → O} (hi : EG (it env) (.ok l) (List.map d))
    (hb : ∀ a, ∃ e1, tgt (d a) (wipeE env vs) = some e1 ∧ EG (elt e1) (.ok (f a)) e) : EG (bLc vs it tgt bYes elt env) (grd (szOk l.length) (.ok (l.map f)) .stk) (oL e) := by
  have := EG_lcp (p := fun _ => true) hi (fun a => let ⟨e1, h1, h2⟩ := hb a; ⟨e1, h1, (rfl : bYes e1 = .ok true), h2⟩)
  rw [(List.filter_eq_self.mpr fun _ _ => rfl : l.filter (fun _ => true) = l)] at this
  exact this
theorem lcE_ok {vs : List Nat} {tgt : D → En → Option En} {elt : En → RE} {d : α → D} {f : α → σ → M (β × σ)} {e : β → O} {Es : σ → En} (hb : ∀ a s, ∃ e1 E, tgt (d a) (Es s) = some e1 ∧ EX (elt e1) (f a s) (fun v => e v.1) E ∧ ∀ v, wipeE (E v) vs = Es v.2) :
    ∀ (l : List α) (acc : List O) (s : σ) (r : List β) (s' : σ), lcX f l s = .ok (r, s') → lcE vs tgt uYes elt (l.map d) acc (Es s) = .ok (acc ++ r.map e, Es s')
  | [], acc, s, r, s', h => by
    unfold lcX at h
    cases h
    show R.ok (acc, Es s) = R.ok (acc ++ [], Es s)
    rw [List.append_nil]
  | a :: l, acc, s, r, s', h => by
    obtain ⟨e1, E, h1, h2, h3⟩ := hb a s
    unfold lcX at h
    rw [List.map_cons]
    unfold lcE
    rw [h1]
    dsimp only
    show (match elt e1 with
      | .ok (x, e3) => lcE vs tgt uYes elt (l.map d) (acc ++ [x]) (wipeE e3 vs)
      | _ => .stk) = _
    cases hf : f a s with
    | ok v =>
      obtain ⟨x, s1⟩ := v
      rw [hf] at h2 h
      dsimp only at h
      rw [show elt e1 = .ok (e x, E (x, s1)) from h2]
      dsimp only
      rw [h3]
      cases hl : lcX f l s1 with
      | ok q =>
        obtain ⟨r1, s2⟩ := q
        rw [hl] at h
        dsimp only at h
        cases h
        rw [lcE_ok hb l (acc ++ [e x]) s1 r1 _ hl, List.append_assoc]; rfl
      | exc c u => rw [hl] at h; cases h
      | stk => rw [hl] at h; cases h
    | exc c u => rw [hf] at h; cases h
    | stk => rw [hf] at h; cases h
theorem EX_lc {vs : List Nat} {it : En → R Unit (List D)} {tgt : D → En → Option En} {elt : En → RE} {env : En} {l : List α} {d : α → D} {f : α → σ → M (β × σ)} {e : β → O} {Es Ef : σ → En} {s0 : σ} (hi : EG (it env) (.ok l) (List.map d)) (h0 : wipeE env vs = Es s0)
    (hb : ∀ a s, ∃ e1 E, tgt (d a) (Es s) = some e1 ∧ EX (elt e1) (f a s) (fun v => e v.1) E ∧ ∀ v, wipeE (E v) vs = Es v.2) (hf : ∀ s, restE env (Es s) vs = Ef s) :
    EX (eLc vs (iJ it) tgt uYes elt env) (grd (szOk l.length) (lcX f l s0) .stk) (fun v => oL e v.1) (fun v => Ef v.2) := by
  unfold eLc iJ
  rw [show it env = .ok (l.map d) from hi]
  dsimp only
  rw [bind_ok]
  dsimp only
  rw [List.length_map, h0]
  cases szOk l.length with
  | false => trivial
  | true =>
    rw [if_pos rfl]
    show EX _ (lcX f l s0) _ _
    cases hl : lcX f l s0 with
    | ok q =>
      obtain ⟨r, s'⟩ := q
      have := lcE_ok hb l [] s0 r s' hl
      rw [List.nil_append] at this
      rw [this]
      show R.ok _ = R.ok _
      dsimp only
      rw [hf]
    | exc c u =>
      exfalso
      have : ∀ (l : List α) (s : σ), lcX f l s ≠ .exc c u := by
        intro l
        induction l with
        | nil => intro s h; cases h
        | cons a l ih =>
          intro s h
          unfold lcX at h
          split at h
          · split at h
            · cases h
            · cases h
          · cases h
      exact this l s0 hl
    | stk => trivial
end
end FD.Ty


set_option Elab.async false
set_option linter.all false
set_option maxRecDepth 100000
/-! F32: statements. -/
namespace FD.Ty
open PySem L2 FD
section
variable {α β γ δ ρ κ σ τ : Type} {F : ρ → O → En → Prop} {L : κ → En → Prop} {B : σ → En → Prop} {B' : τ → En → Prop}
theorem SR_nil {env : En} {s : σ} (h : B s env) : SR (sNil env) (.nx s : TR ρ κ σ) F L B := ⟨env, rfl, h⟩
theorem SR_brk {rest : En → RS} {env : En} {s : κ} (h : L s env) : SR (sCons sBrk rest env) (.bk s : TR ρ κ σ) F L B := ⟨env, rfl, h⟩
theorem SR_cnt {rest : En → RS} {env : En} {s : κ} (h : L s env) : SR (sCons sCnt rest env) (.ct s : TR ρ κ σ) F L B := ⟨env, rfl, h⟩
theorem SR_seq {g h : En → RS} {env : En} {t : TR ρ κ σ} {K : σ → TR ρ κ τ} (h1 : SR (g env) t F L B) (k : ∀ s e, B s e → SR (h e) (K s) F L B') : SR (sCons g h env) (sq t K) F L B' := by
  unfold sCons
  cases t with
  | nx s => obtain ⟨e, h2, h3⟩ := h1; rw [h2]; exact k s e h3
  | rt v => obtain ⟨d, e, h2, h3⟩ := h1; rw [h2]; exact ⟨d, e, rfl, h3⟩
  | bk s => obtain ⟨e, h2, h3⟩ := h1; rw [h2]; exact ⟨e, rfl, h3⟩
  | ct s => obtain ⟨e, h2, h3⟩ := h1; rw [h2]; exact ⟨e, rfl, h3⟩
  | exc c => obtain ⟨e, h2⟩ := h1; rw [h2]; exact ⟨e, rfl⟩
  | stk => trivial
/-- a statement that needs one effect's value -/
theorem SR_setp {i : Nat} {f : En → RE} {rest : En → RS} {env : En} {v : α} {e : α → O} {E : α → En} {K : TR ρ κ σ} (h : EX (f env) (.ok v) e E) (k : SR (rest ((E v).set i (some (e v)))) K F L B) : SR (sCons (sSet i f) rest env) K F L B := by
  unfold sCons sSet
  rw [show f env = .ok (e v, E v) from h]; exact k
theorem SR_set {i : Nat} {f : En → RE} {rest : En → RS} {env : En} {t : M α} {e : α → O} {E : α → En} {K : α → TR ρ κ σ} (h : EX (f env) t e E) (k : ∀ v, SR (rest ((E v).set i (some (e v)))) (K v) F L B) : SR (sCons (sSet i f) rest env) (thn t K) F L B := by
  unfold sCons sSet
  cases t with
  | ok v => rw [show f env = .ok (e v, E v) from h]; exact k v
  | exc c u => obtain ⟨e1, h⟩ := h; rw [h]; exact ⟨e1, rfl⟩
  | stk => trivial
theorem SR_exprp {f : En → RE} {rest : En → RS} {env : En} {v : α} {e : α → O} {E : α → En} {K : TR ρ κ σ} (h : EX (f env) (.ok v) e E) (k : SR (rest (E v)) K F L B) : SR (sCons (sExpr f) rest env) K F L B := by
  unfold sCons sExpr
  rw [show f env = .ok (e v, E v) from h]; exact k
theorem SR_expr {f : En → RE} {rest : En → RS} {env : En} {t : M α} {e : α → O} {E : α → En} {K : α → TR ρ κ σ} (h : EX (f env) t e E) (k : ∀ v, SR (rest (E v)) (K v) F L B) : SR (sCons (sExpr f) rest env) (thn t K) F L B := by
  unfold sCons sExpr
  cases t with
  | ok v => rw [show f env = .ok (e v, E v) from h]; exact k v
  | exc c u => obtain ⟨e1, h⟩ := h; rw [h]; exact ⟨e1, rfl⟩
  | stk => trivial
theorem SR_retp {f : En → RE} {rest : En → RS} {env : En} {v : α} {e : α → O} {E : α → En} {w : ρ} (h : EX (f env) (.ok v) e E) (hF : F w (e v) (E v)) : SR (sCons (sRet f) rest env) (.rt w : TR ρ κ σ) F L B := by
  unfold sCons sRet
  rw [show f env = .ok (e v, E v) from h]; exact ⟨_, _, rfl, hF⟩
theorem SR_ret {f : En → RE} {rest : En → RS} {env : En} {t : M α} {e : α → O} {E : α → En} {w : α → ρ} (h : EX (f env) t e E) (hF : ∀ v, F (w v) (e v) (E v)) : SR (sCons (sRet f) rest env) (thn t fun v => .rt (w v) : TR ρ κ σ) F L B := by
  unfold sCons sRet
  cases t with
  | ok v => rw [show f env = .ok (e v, E v) from h]; exact ⟨_, _, rfl, hF v⟩
  | exc c u => obtain ⟨e1, h⟩ := h; rw [h]; exact ⟨e1, rfl⟩
  | stk => trivial
theorem SR_retN {rest : En → RS} {env : En} {w : ρ} (hF : F w (.sh .non) env) : SR (sCons sRetN rest env) (.rt w : TR ρ κ σ) F L B := ⟨_, _, rfl, hF⟩
/-! if -/
theorem if_ok {tt : En → RB} {g h : En → RS} {env : En} {t : M Bool} {x y : TR ρ κ σ} (hc : EG (tt env) t id) (h1 : SR (g env) x F L B) (h2 : SR (h env) y F L B) : SR (sIf (uT tt) g h env) (thn t fun b => if b then x else y) F L B := by
  unfold sIf uT
  cases t with
  | ok b =>
    rw [show tt env = .ok b from hc]
    cases b with
    | true => exact h1
    | false => exact h2
  | exc c u => rw [show tt env = .exc c () from hc]; exact ⟨env, rfl⟩
  | stk => trivial
theorem SR_if {tt : En → RB} {g h rest : En → RS} {env : En} {t : M Bool} {x y : TR ρ κ σ} {K : σ → TR ρ κ τ} (hc : EG (tt env) t id) (h1 : SR (g env) x F L B) (h2 : SR (h env) y F L B) (k : ∀ s e, B s e → SR (rest e) (K s) F L B') :
    SR (sCons (sIf (uT tt) g h) rest env) (sq (thn t fun b => if b then x else y) K) F L B' := SR_seq (if_ok hc h1 h2) k
theorem SR_ifp {tt : En → RB} {g h rest : En → RS} {env : En} {b : Bool} {x y : TR ρ κ σ} {K : σ → TR ρ κ τ} (hc : EG (tt env) (.ok b) id) (h1 : SR (g env) x F L B) (h2 : SR (h env) y F L B) (k : ∀ s e, B s e → SR (rest e) (K s) F L B') :
    SR (sCons (sIf (uT tt) g h) rest env) (sq (if b then x else y) K) F L B' := SR_if hc h1 h2 k
/-- the first branch leaves -/
theorem SR_ifl {tt : En → RB} {g rest : En → RS} {env : En} {t : M Bool} {x : TR ρ κ Empty} {K : TR ρ κ σ} (hc : EG (tt env) t id) (h1 : SR (g env) x F L (fun _ _ => True)) (k : SR (rest env) K F L B) :
    SR (sCons (sIf (uT tt) g sNil) rest env) (thn t fun b => if b then sq x (fun z => z.elim) else K) F L B := by
  unfold sCons sIf uT
  cases t with
  | ok b =>
    rw [show tt env = .ok b from hc]
    cases b with
    | true =>
      show SR (match g env with
        | .nx e => rest e
        | r => r) (sq x fun z => z.elim) F L B
      cases x with
      | nx s => exact s.elim
      | rt v => obtain ⟨d, e, h2, h3⟩ := h1; rw [h2]; exact ⟨d, e, rfl, h3⟩
      | bk s => obtain ⟨e, h2, h3⟩ := h1; rw [h2]; exact ⟨e, rfl, h3⟩
      | ct s => obtain ⟨e, h2, h3⟩ := h1; rw [h2]; exact ⟨e, rfl, h3⟩
      | exc c => obtain ⟨e, h2⟩ := h1; rw [h2]; exact ⟨e, rfl⟩
      | stk => trivial
    | false => exact k
  | exc c u => rw [show tt env = .exc c () from hc]; exact ⟨env, rfl⟩
  | stk => trivial
theorem SR_iflp {tt : En → RB} {g rest : En → RS} {env : En} {b : Bool} {x : TR ρ κ Empty} {K : TR ρ κ σ} (hc : EG (tt env) (.ok b) id) (h1 : SR (g env) x F L (fun _ _ => True)) (k : SR (rest env) K F L B) :
    SR (sCons (sIf (uT tt) g sNil) rest env) (if b then sq x (fun z => z.elim) else K) F L B := SR_ifl hc h1 k
/-- .. by return of what is plain -/
theorem SR_ifr {tt : En → RB} {f : En → RE} {rest r2 : En → RS} {env : En} {t : M Bool} {v : α} {e : α → O} {E : α → En} {w : ρ} {K : TR ρ κ σ} (hc : EG (tt env) t id) (h : EX (f env) (.ok v) e E) (hF : F w (e v) (E v)) (k : SR (rest env) K F L B) :
    SR (sCons (sIf (uT tt) (sCons (sRet f) r2) sNil) rest env) (thn t fun b => if b then .rt w else K) F L B := SR_ifl (x := .rt w) hc (SR_retp h hF) k
theorem SR_ifrp {tt : En → RB} {f : En → RE} {rest r2 : En → RS} {env : En} {b : Bool} {v : α} {e : α → O} {E : α → En} {w : ρ} {K : TR ρ κ σ} (hc : EG (tt env) (.ok b) id) (h : EX (f env) (.ok v) e E) (hF : F w (e v) (E v)) (k : SR (rest env) K F L B) :
    SR (sCons (sIf (uT tt) (sCons (sRet f) r2) sNil) rest env) (if b then .rt w else K) F L B := SR_ifr hc h hF k
/-! loops -/
theorem for_ok {tgt : D → En → Option En} {body : En → RS} {d : α → D} {f : α → σ → TR ρ σ σ} (hb : ∀ a s e, B s e → ∃ e1, tgt (d a) e = some e1 ∧ SR (body e1) (f a s) F B B) :
    ∀ (l : List α) (s : σ) (env : En), B s env → SR (forL tgt body (l.map d) env) (forT f l s : TR ρ κ σ) F L B
  | [], s, env, h => ⟨env, rfl, h⟩
  | a :: l, s, env, h => by
    obtain ⟨e1, h1, h2⟩ := hb a s env h
    rw [List.map_cons]
    unfold forL forT
    rw [h1]
    dsimp only
    cases q : f a s with
    | nx s => rw [q] at h2; obtain ⟨e, h3, h4⟩ := h2; rw [h3]; exact for_ok hb l s e h4
    | ct s => rw [q] at h2; obtain ⟨e, h3, h4⟩ := h2; rw [h3]; exact for_ok hb l s e h4
    | bk s => rw [q] at h2; obtain ⟨e, h3, h4⟩ := h2; rw [h3]; exact ⟨e, rfl, h4⟩
    | rt v => rw [q] at h2; obtain ⟨x, e, h3, h4⟩ := h2; rw [h3]; exact ⟨x, e, rfl, h4⟩
    | exc c => rw [q] at h2; obtain ⟨e, h3⟩ := h2; rw [h3]; exact ⟨e, rfl⟩
    | stk => trivial
theorem forO_ok {i : Nat} {body : En → RS} {eo : α → O} {f : α → σ → TR ρ σ σ} (hb : ∀ a s e, B s e → SR (body (e.set i (some (eo a)))) (f a s) F B B) :
    ∀ (l : List α) (s : σ) (env : En), B s env → SR (forO i body (l.map eo) env) (forT f l s : TR ρ κ σ) F L B
  | [], s, env, h => ⟨env, rfl, h⟩
  | a :: l, s, env, h => by
    have h2 := hb a s env h
    rw [List.map_cons]
    unfold forO forT
    cases q : f a s with
    | nx s => rw [q] at h2; obtain ⟨e, h3, h4⟩ := h2; rw [h3]; exact forO_ok hb l s e h4
    | ct s => rw [q] at h2; obtain ⟨e, h3, h4⟩ := h2; rw [h3]; exact forO_ok hb l s e h4
    | bk s => rw [q] at h2; obtain ⟨e, h3, h4⟩ := h2; rw [h3]; exact ⟨e, rfl, h4⟩
    | rt v => rw [q] at h2; obtain ⟨x, e, h3, h4⟩ := h2; rw [h3]; exact ⟨x, e, rfl, h4⟩
    | exc c => rw [q] at h2; obtain ⟨e, h3⟩ := h2; rw [h3]; exact ⟨e, rfl⟩
    | stk => trivial
theorem SR_forp {j : En → R Unit (List D)} {tgt : D → En → Option En} {body rest : En → RS} {env : En} {l : List α} {d : α → D} {f : α → σ → TR ρ σ σ} {s0 : σ} {K : σ → TR ρ κ τ} (B : σ → En → Prop) (hi : EG (j env) (.ok l) (List.map d)) (h0 : B s0 env)
    (hb : ∀ a s e, B s e → ∃ e1, tgt (d a) e = some e1 ∧ SR (body e1) (f a s) F B B) (k : ∀ s e, B s e → SR (rest e) (K s) F L B') : SR (sCons (sFor (iJ j) tgt body) rest env) (sq (forT f l s0) K) F L B' := by
  refine SR_seq (B := B) ?_ k
  unfold sFor iJ
  rw [show j env = .ok (l.map d) from hi]
  exact for_ok hb l s0 env h0
theorem SR_for {j : En → R Unit (List D)} {tgt : D → En → Option En} {body rest : En → RS} {env : En} {t : M (List α)} {d : α → D} {f : α → σ → TR ρ σ σ} {s0 : σ} {K : σ → TR ρ κ τ} (B : σ → En → Prop) (hi : EG (j env) t (List.map d)) (h0 : B s0 env)
    (hb : ∀ a s e, B s e → ∃ e1, tgt (d a) e = some e1 ∧ SR (body e1) (f a s) F B B) (k : ∀ s e, B s e → SR (rest e) (K s) F L B') : SR (sCons (sFor (iJ j) tgt body) rest env) (sq (thn t fun l => forT f l s0) K) F L B' := by
  refine SR_seq (B := B) ?_ k
  unfold sFor iJ
  cases t with
  | ok l => rw [show j env = .ok (l.map d) from hi]; exact for_ok hb l s0 env h0
  | exc c u => rw [show j env = .exc c () from hi]; exact ⟨env, rfl⟩
  | stk => trivial
theorem SR_forE {it : En → R En (List D × En)} {tgt : D → En → Option En} {body rest : En → RS} {env : En} {t : M γ} {e' : γ → List D} {E : γ → En} {xs : γ → List α} {d : α → D} {f : α → σ → TR ρ σ σ} {s0 : γ → σ} {K : σ → TR ρ κ τ} (B : σ → En → Prop) (hi : EX (it env) t e' E) (he : ∀ v, e' v = (xs v).map d) (h0 : ∀ v, B (s0 v) (E v))
    (hb : ∀ a s e, B s e → ∃ e1, tgt (d a) e = some e1 ∧ SR (body e1) (f a s) F B B) (k : ∀ s e, B s e → SR (rest e) (K s) F L B') : SR (sCons (sFor it tgt body) rest env) (sq (thn t fun v => forT f (xs v) (s0 v)) K) F L B' := by
  refine SR_seq (B := B) ?_ k
  unfold sFor
  cases t with
  | ok v =>
    rw [show it env = .ok (e' v, E v) from hi]
    dsimp only
    rw [he]; exact for_ok hb (xs v) (s0 v) (E v) (h0 v)
  | exc c u => obtain ⟨e1, h⟩ := hi; rw [h]; exact ⟨e1, rfl⟩
  | stk => trivial
theorem SR_forO {ff : En → RE} {i : Nat} {body rest : En → RS} {env : En} {t : M γ} {e' : γ → O} {E : γ → En} {xs : γ → List α} {eo : α → O} {f : α → σ → TR ρ σ σ} {s0 : γ → σ} {K : σ → TR ρ κ τ} (B : σ → En → Prop) (hi : EX (ff env) t e' E) (he : ∀ v, e' v = oL eo (xs v)) (h0 : ∀ v, B (s0 v) (E v))
    (hb : ∀ a s e, B s e → SR (body (e.set i (some (eo a)))) (f a s) F B B) (k : ∀ s e, B s e → SR (rest e) (K s) F L B') : SR (sCons (sForO ff i body) rest env) (sq (thn t fun v => forT f (xs v) (s0 v)) K) F L B' := by
  refine SR_seq (B := B) ?_ k
  unfold sForO
  cases t with
  | ok v =>
    rw [show ff env = .ok (e' v, E v) from hi, he]
    exact forO_ok hb (xs v) (s0 v) (E v) (h0 v)
  | exc c u => obtain ⟨e1, h⟩ := hi; rw [h]; exact ⟨e1, rfl⟩
  | stk => trivial
theorem whl_ok {tt : En → RB} {body : En → RS} {c : σ → M Bool} {f : σ → TR ρ σ σ} (hc : ∀ s e, B s e → EG (tt e) (c s) id) (hb : ∀ s e, B s e → SR (body e) (f s) F B B) : ∀ (n : Nat) (s : σ) (env : En), B s env → SR (whl (uT tt) body n env) (whT c f n s : TR ρ κ σ) F L B
  | 0, s, env, h => trivial
  | n + 1, s, env, h => by
    have h1 := hc s env h
    have h2 := hb s env h
    unfold whl whT uT
    cases q : c s with
    | ok b =>
      rw [q] at h1
      rw [show tt env = .ok b from h1]
      cases b with
      | false => exact ⟨env, rfl, h⟩
      | true =>
        dsimp only
        cases q : f s with
        | nx s => rw [q] at h2; obtain ⟨e, h3, h4⟩ := h2; rw [h3]; exact whl_ok hc hb n s e h4
        | ct s => rw [q] at h2; obtain ⟨e, h3, h4⟩ := h2; rw [h3]; exact whl_ok hc hb n s e h4
        | bk s => rw [q] at h2; obtain ⟨e, h3, h4⟩ := h2; rw [h3]; exact ⟨e, rfl, h4⟩
        | rt v => rw [q] at h2; obtain ⟨x, e, h3, h4⟩ := h2; rw [h3]; exact ⟨x, e, rfl, h4⟩
        | exc c => rw [q] at h2; obtain ⟨e, h3⟩ := h2; rw [h3]; exact ⟨e, rfl⟩
        | stk => trivial
    | exc c u => rw [q] at h1; rw [show tt env = .exc c () from h1]; exact ⟨env, rfl⟩
    | stk => trivial
theorem SR_whl {tt : En → RB} {body rest : En → RS} {env : En} {c : σ → M Bool} {f : σ → TR ρ σ σ} {n : Nat} {s0 : σ} {K : σ → TR ρ κ τ} (B : σ → En → Prop) (h0 : B s0 env) (hc : ∀ s e, B s e → EG (tt e) (c s) id) (hb : ∀ s e, B s e → SR (body e) (f s) F B B)
    (k : ∀ s e, B s e → SR (rest e) (K s) F L B') : SR (sCons (whl (uT tt) body n) rest env) (sq (whT c f n s0) K) F L B' := SR_seq (whl_ok hc hb n s0 env h0) k
/-! several at once -/
theorem SR_parp {i j : Nat} {f : En → R En (List O × En)} {rest : En → RS} {env : En} {v : α} {e : α → List O} {E : α → En} {x y : O} {K : TR ρ κ σ} (h : EX (f env) (.ok v) e E) (he : e v = [x, y]) (k : SR (rest (((E v).set i (some x)).set j (some y))) K F L B) : SR (sCons (sPar i j f) rest env) K F L B := by
  unfold sCons sPar
  rw [show f env = .ok (e v, E v) from h, he]; exact k
theorem SR_par {i j : Nat} {f : En → R En (List O × En)} {rest : En → RS} {env : En} {t : M α} {e : α → List O} {E : α → En} {x y : α → O} {K : α → TR ρ κ σ} (h : EX (f env) t e E) (he : ∀ v, e v = [x v, y v]) (k : ∀ v, SR (rest (((E v).set i (some (x v))).set j (some (y v)))) (K v) F L B) : SR (sCons (sPar i j f) rest env) (thn t K) F L B := by
  unfold sCons sPar
  cases t with
  | ok v => rw [show f env = .ok (e v, E v) from h, he]; exact k v
  | exc c u => obtain ⟨e1, h⟩ := h; rw [h]; exact ⟨e1, rfl⟩
  | stk => trivial
theorem SR_asgp {tgt : D → En → Option En} {f : En → RE} {rest : En → RS} {env e2 : En} {v : α} {e : α → O} {d : D} {E : α → En} {K : TR ρ κ σ} (h : EX (f env) (.ok v) e E) (he : e v = .sh d) (ht : tgt d (E v) = some e2) (k : SR (rest e2) K F L B) : SR (sCons (sAsgG tgt f) rest env) K F L B := by
  unfold sCons sAsgG
  rw [show f env = .ok (e v, E v) from h, he]
  dsimp only
  rw [ht]; exact k
theorem SR_asg {tgt : D → En → Option En} {f : En → RE} {rest : En → RS} {env : En} {e2 : α → En} {t : M α} {e : α → O} {d : α → D} {E : α → En} {K : α → TR ρ κ σ} (h : EX (f env) t e E) (he : ∀ v, e v = .sh (d v)) (ht : ∀ v, tgt (d v) (E v) = some (e2 v)) (k : ∀ v, SR (rest (e2 v)) (K v) F L B) : SR (sCons (sAsgG tgt f) rest env) (thn t K) F L B := by
  unfold sCons sAsgG
  cases t with
  | ok v =>
    rw [show f env = .ok (e v, E v) from h, he]
    dsimp only
    rw [ht]; exact k v
  | exc c u => obtain ⟨e1, h⟩ := h; rw [h]; exact ⟨e1, rfl⟩
  | stk => trivial
/-! changes of lists -/
noncomputable def appM (l : List α) (x : α) : M (List α) := grd (szOk (l.length + 1)) (.ok (l ++ [x])) .stk
noncomputable def extM (l r : List α) : M (List α) := grd (szOk (l.length + r.length)) (.ok (l ++ r)) .stk
def setM (l : List α) (j : Int) (x : α) : M (List α) := match ixN l.length j with
  | some k => .ok (l.set k x)
  | none => .stk
noncomputable def popM (l : List α) (j : Int) : M (α × List α) := match (if okI j then seqIndex? j l.length else none) with
  | some k => match l[k]? with
    | some x => .ok (x, l.eraseIdx k)
    | none => .stk
  | none => .stk
def pop0M (l : List α) : M (α × List α) := match l[l.length - 1]? with
  | some x => .ok (x, l.dropLast)
  | none => .stk
def remM (l : List Int) (x : Int) : M (List Int) := grd (l.contains x) (.ok (l.erase x)) .stk
theorem eraseIdx_mapT (f : α → β) : ∀ (l : List α) (k : Nat), (l.map f).eraseIdx k = (l.eraseIdx k).map f
  | [], _ => rfl
  | a :: l, 0 => rfl
  | a :: l, k + 1 => by rw [List.map_cons, List.eraseIdx_cons_succ, List.eraseIdx_cons_succ, eraseIdx_mapT f l k, List.map_cons]
theorem lstG_oL {env : En} {i : Nat} {l : List α} {e : α → O} (h : gt env i = some (oL e l)) : lstG env i = some (l.map e) := by
  unfold lstG; rw [h]
theorem gtL {env : En} {i : Nat} (hl : ∃ xs, gt env i = some (O.lst xs)) : ∃ xs, lstG env i = some xs := by
  obtain ⟨xs, h⟩ := hl
  exact ⟨xs, by unfold lstG; rw [h]⟩
theorem EX_app {i : Nat} {f : En → RE} {env : En} {xs0 : List O} {v : γ} {ev : γ → O} {E : γ → En} {x : α} {l : List α} {e : α → O} (h0 : lstG env i = some xs0) (h : EX (f env) (.ok v) ev E) (hx : ev v = e x) (hl : gt (E v) i = some (oL e l)) :
    EX (eApp i f env) (appM l x) (fun _ => .sh .non) (fun l' => (E v).set i (some (oL e l'))) := by
  unfold eApp appM
  rw [h0, show f env = .ok (ev v, E v) from h]
  dsimp only
  rw [bind_ok]
  dsimp only
  rw [lstG_oL hl]
  dsimp only
  rw [List.length_map, hx]
  cases szOk (l.length + 1) with
  | true =>
    show R.ok _ = R.ok _
    dsimp only [oL]
    rw [List.map_append]; rfl
  | false => trivial
theorem EX_rem {i : Nat} {f : En → RP} {env : En} {x : Int} {l : List Int} (h : EG (f env) (.ok x) (sh dI)) (hl : gt env i = some (oL (sh dI) l)) : EX (eRem i f env) (remM l x) (fun _ => .sh .non) (fun l' => env.set i (some (oL (sh dI) l'))) := by
  unfold eRem remM
  have h1 : intsO (l.map (sh dI)) = some l := intsO_ints l
  rw [lstG_oL hl, Option.bind_some, h1]
  dsimp only
  rw [show f env = .ok (sh dI x) from h]
  show EX (if l.contains x = true then _ else _) _ _ _
  cases l.contains x with
  | true => exact rfl
  | false => trivial
theorem EX_pop {i : Nat} {f : En → RP} {env : En} {j : Int} {l : List α} {e : α → O} (h : EG (f env) (.ok j) (sh dI)) (hl : gt env i = some (oL e l)) : EX (ePop i f env) (popM l j) (fun p => e p.1) (fun p => env.set i (some (oL e p.2))) := by
  unfold ePop popM
  rw [lstG_oL hl]
  dsimp only
  rw [show f env = .ok (sh dI j) from h]
  show EX (match (if okI j = true then seqIndex? j (l.map e).length else none) with
    | some k => match (l.map e)[k]? with
      | some d => .ok (d, env.set i (some (.lst ((l.map e).eraseIdx k))))
      | none => .stk
    | none => .stk) _ _ _
  rw [List.length_map]
  cases (if okI j = true then seqIndex? j l.length else none) with
  | none => trivial
  | some k =>
    dsimp only
    rw [List.getElem?_map]
    cases l[k]? with
    | none => trivial
    | some x =>
      show R.ok _ = R.ok _
      dsimp only [oL]
      rw [eraseIdx_mapT]
theorem EX_pop0 {i : Nat} {env : En} {l : List α} {e : α → O} (hl : gt env i = some (oL e l)) : EX (ePop0 i env) (pop0M l) (fun p => e p.1) (fun p => env.set i (some (oL e p.2))) := by
  unfold ePop0 pop0M
  rw [lstG_oL hl]
  dsimp only
  rw [List.length_map, List.getElem?_map]
  cases l[l.length - 1]? with
  | none => trivial
  | some x =>
    show R.ok _ = R.ok _
    dsimp only [oL]
    rw [List.map_dropLast]
theorem SR_setIx {i : Nat} {f : En → RE} {g : En → RP} {rest : En → RS} {env : En} {v : γ} {ev : γ → O} {E : γ → En} {x : α} {j : Int} {l : List α} {e : α → O} {K : List α → TR ρ κ σ} (h : EX (f env) (.ok v) ev E) (hx : ev v = e x) (hj : EG (g (E v)) (.ok j) (sh dI)) (hl : gt (E v) i = some (oL e l))
    (k : ∀ l', SR (rest ((E v).set i (some (oL e l')))) (K l') F L B) : SR (sCons (sSetIx i f g) rest env) (thn (setM l j x) K) F L B := by
  unfold sCons sSetIx setM
  rw [show f env = .ok (ev v, E v) from h]
  dsimp only
  rw [lstG_oL hl]
  dsimp only
  rw [show g (E v) = .ok (sh dI j) from hj]
  dsimp only
  rw [show asI (sh dI j) = some j from rfl, Option.bind_some, List.length_map]
  cases ixN l.length j with
  | none => trivial
  | some q =>
    dsimp only
    have := k (l.set q x)
    simp only [oL] at this
    rw [List.map_set] at this
    rw [hx]
    exact this
/-- .. what was set may be found first -/
theorem SR_thn {g : En → RS} {env : En} {r : R Unit β} {t : M α} {e : α → β} {K : α → TR ρ κ σ} (h : EG r t e) (hk : ∀ v, r = .ok (e v) → SR (g env) (K v) F L B) (hx : ∀ c, r = .exc c () → ∃ e1, g env = .exc c e1) : SR (g env) (thn t K) F L B := by
  cases t with
  | ok v => exact hk v h
  | exc c u => exact hx c h
  | stk => trivial
theorem SR_setIxm {i : Nat} {f : En → RE} {g : En → RP} {rest : En → RS} {env : En} {s : M γ} {t : M Int} {ev : γ → O} {E : γ → En} {x : γ → α} {l : γ → List α} {e : α → O} {K : γ → List α → TR ρ κ σ} (h : EX (f env) s ev E) (hx : ∀ v, ev v = e (x v)) (hj : ∀ v, EG (g (E v)) t (sh dI)) (hl : ∀ v, gt (E v) i = some (oL e (l v)))
    (k : ∀ v l', SR (rest ((E v).set i (some (oL e l')))) (K v l') F L B) : SR (sCons (sSetIx i f g) rest env) (thn s fun v => thn t fun j => thn (setM (l v) j (x v)) (K v)) F L B := by
  cases s with
  | stk => trivial
  | exc c u =>
    obtain ⟨e1, h⟩ := h
    unfold sCons sSetIx
    rw [h]; exact ⟨e1, rfl⟩
  | ok v =>
    cases t with
    | stk => trivial
    | exc c u =>
      unfold sCons sSetIx
      rw [show f env = .ok (ev v, E v) from h]
      dsimp only
      rw [lstG_oL (hl v)]
      dsimp only
      rw [show g (E v) = .exc c () from hj v]; exact ⟨_, rfl⟩
    | ok j => exact SR_setIx h (hx v) (hj v) (hl v) (k v)
theorem SR_setIxj {i : Nat} {f : En → RE} {g : En → RP} {rest : En → RS} {env : En} {s : M γ} {j : γ → Int} {ev : γ → O} {E : γ → En} {x : γ → α} {l : γ → List α} {e : α → O} {K : γ → List α → TR ρ κ σ} (h : EX (f env) s ev E) (hx : ∀ v, ev v = e (x v)) (hj : ∀ v, EG (g (E v)) (.ok (j v)) (sh dI)) (hl : ∀ v, gt (E v) i = some (oL e (l v)))
    (k : ∀ v l', SR (rest ((E v).set i (some (oL e l')))) (K v l') F L B) : SR (sCons (sSetIx i f g) rest env) (thn s fun v => thn (setM (l v) (j v) (x v)) (K v)) F L B := by
  cases s with
  | stk => trivial
  | exc c u =>
    obtain ⟨e1, h⟩ := h
    unfold sCons sSetIx
    rw [h]; exact ⟨e1, rfl⟩
  | ok v => exact SR_setIx h (hx v) (hj v) (hl v) (k v)
theorem SR_ext {i : Nat} {f : En → RE} {rest : En → RS} {env : En} {xs0 : List O} {s : M γ} {ev : γ → O} {E : γ → En} {l r : γ → List α} {d : α → D} {K : γ → List α → TR ρ κ σ} (h0 : lstG env i = some xs0) (h : EX (f env) s ev E) (hr : ∀ v, lstO (ev v) = some ((r v).map d)) (hl : ∀ v, gt (E v) i = some (oL (sh d) (l v)))
    (k : ∀ v l', SR (rest ((E v).set i (some (oL (sh d) l')))) (K v l') F L B) : SR (sCons (sExt i f) rest env) (thn s fun v => thn (extM (l v) (r v)) (K v)) F L B := by
  unfold sCons sExt
  rw [h0]
  dsimp only
  cases s with
  | stk => trivial
  | exc c u => obtain ⟨e1, h⟩ := h; rw [h]; exact ⟨e1, rfl⟩
  | ok v =>
    rw [show f env = .ok (ev v, E v) from h]
    dsimp only
    rw [lstG_oL (hl v), Option.bind_some, allSh_sh]
    dsimp only
    rw [hr v]
    dsimp only
    rw [List.length_map, List.length_map]
    show SR (match (if szOk ((l v).length + (r v).length) = true then RS.nx ((E v).set i (some (.lst (((l v).map d ++ (r v).map d).map O.sh)))) else .stk) with
      | .nx e => rest e
      | r => r) (thn (grd (szOk ((l v).length + (r v).length)) (.ok (l v ++ r v)) .stk) (K v)) F L B
    cases szOk ((l v).length + (r v).length) with
    | false => trivial
    | true =>
      have := k v (l v ++ r v)
      rw [show oL (sh d) (l v ++ r v) = .lst (((l v).map d ++ (r v).map d).map O.sh) from by
        show O.lst ((l v ++ r v).map (sh d)) = _
        rw [← List.map_append, List.map_map]; rfl] at this
      exact this
/-! ### defs -/
theorem RF_fn {n m : Nat} {g : En → RS} {ds : List O} {t : TR ρ κ ρ} {ev : ρ → O} (hl : ds.length = n) (h : SR (g (fnE m ds)) t (fun v d _ => d = ev v) L (fun v _ => ev v = .sh .non)) : RF 0 (fnT n m [] g ds) (finT t) ev (fun _ => []) := by
  unfold fnT tbl
  rw [if_pos hl]
  cases t with
  | nx s => obtain ⟨e, h1, h2⟩ := h; rw [h1]; show RC.ok _ _ = RC.ok _ _; rw [← h2]
  | rt v => obtain ⟨d, e, h1, h2⟩ := h; rw [h1, h2]; exact rfl
  | bk s => trivial
  | ct s => trivial
  | exc c => obtain ⟨e, h1⟩ := h; rw [h1]; exact ⟨[], rfl, rfl⟩
  | stk => trivial
@[simp] def finX {ρ κ : Type} (t : TR ρ κ ρ) : M ρ := match t with
  | .nx s => .ok s
  | .rt v => .ok v
  | _ => .stk
theorem RF_fnX {n m k : Nat} {pr : List Nat} {g : En → RS} {ds : List O} {t : TR ρ κ ρ} {ev : ρ → O} {ef : ρ → List O} (hl : ds.length = n) (h : SR (g (fnE m ds)) t (fun v d e => d = ev v ∧ finL pr e = some (ef v)) L (fun v e => ev v = .sh .non ∧ finL pr e = some (ef v))) : RF k (fnT n m pr g ds) (finX t) ev ef := by
  unfold fnT tbl
  rw [if_pos hl]
  cases t with
  | nx s => obtain ⟨e, h1, h2, h3⟩ := h; rw [h1]; dsimp only; rw [h3]; show RC.ok _ _ = RC.ok _ _; rw [← h2]
  | rt v => obtain ⟨d, e, h1, h2, h3⟩ := h; rw [h1]; dsimp only; rw [h3, h2]; exact rfl
  | bk s => trivial
  | ct s => trivial
  | exc c => trivial
  | stk => trivial
end
end FD.Ty


set_option Elab.async false
set_option linter.all false
set_option maxRecDepth 100000
/-! F33: operators. -/
namespace FD.Ty
open PySem L2 FD
section
variable {α β γ : Type}
/-! numbers -/
noncomputable def mulM (a b : Int) : M Int := grd (cMul a b) (.ok (a * b)) .stk
noncomputable def divM (a b : Int) : M Int := grd (okJ b) (.ok (a / b)) .stk
def modM (a b : Int) : M Int := grd (decide (0 < b)) (.ok (a % b)) .stk
theorem op_mul (a b : Int) : EG (ofO (oStar (sh dI a) (sh dI b))) (mulM a b) (sh dI) := by
  unfold oStar orE mulM
  show EG (ofO (match (if cMul a b = true then some (O.sh (.int (a * b))) else none) with
    | some z => some z
    | none => repL (sh dI a) (sh dI b))) _ _
  cases cMul a b with
  | true => exact rfl
  | false => trivial
theorem op_mulc (a : Int) {b : Int} (h : okI b = true) : EG (ofO (oStar (sh dI a) (sh dI b))) (.ok (a * b)) (sh dI) := by
  have := op_mul a b
  unfold mulM at this
  rwa [show cMul a b = true by unfold cMul; rw [h, Bool.or_true]] at this
theorem op_cmul {a : Int} (b : Int) (h : okI a = true) : EG (ofO (oStar (sh dI a) (sh dI b))) (.ok (a * b)) (sh dI) := by
  have := op_mul a b
  unfold mulM at this
  rwa [show cMul a b = true by unfold cMul; rw [h, Bool.true_or]] at this
theorem op_div (a b : Int) : EG (ofO (oDiv (sh dI a) (sh dI b))) (divM a b) (sh dI) := by
  unfold divM
  show EG (ofO (if okJ b = true then some (O.sh (.int (a / b))) else none)) _ _
  cases okJ b with
  | true => exact rfl
  | false => trivial
theorem op_divc (a : Int) {b : Int} (h : okJ b = true) : EG (ofO (oDiv (sh dI a) (sh dI b))) (.ok (a / b)) (sh dI) := by
  have := op_div a b
  unfold divM at this
  rwa [h] at this
theorem op_mod (a b : Int) : EG (ofO (oMod (sh dI a) (sh dI b))) (modM a b) (sh dI) := by
  unfold modM
  show EG (ofO (if decide (0 < b) = true then some (O.sh (.int (a % b))) else none)) _ _
  cases decide (0 < b) with
  | true => exact rfl
  | false => trivial
theorem op_modc (a : Int) {b : Int} (h : 0 < b) : EG (ofO (oMod (sh dI a) (sh dI b))) (.ok (a % b)) (sh dI) := by
  have := op_mod a b
  unfold modM at this
  rwa [decide_eq_true h] at this
/-! equality -/
structure EqD [DecidableEq α] (n : Nat) (d : α → D) : Prop where
  ok : ∀ a, okD n (d a) = true
  eq : ∀ a b, deq (d a) (d b) = decide (a = b)
theorem EqD_int {n : Nat} : EqD n dI := ⟨fun a => okD_int n a, fun a b => deq_int a b⟩
theorem EqD_bool {n : Nat} : EqD n dB := ⟨fun a => okD_bl n a, fun a b => (deq_bl a b).trans (by cases a <;> cases b <;> rfl)⟩
theorem EqD_lst [DecidableEq α] {n : Nat} {d : α → D} (h : EqD n d) : EqD (n + 1) (dL d) := ⟨fun l => by
    show (l.map d).all (okD n) = true
    rw [List.all_eq_true]
    intro x hx
    obtain ⟨a, _, rfl⟩ := List.mem_map.mp hx
    exact h.ok a, fun a b => (deq_lst _ _).trans (deqL_map d h.eq a b)⟩
theorem EqD_tup [DecidableEq α] {n : Nat} {m : Bool} {d : α → D} (h : EqD n d) : EqD (n + 1) (dT m d) := ⟨fun l => by
    show (l.map d).all (okD n) = true
    rw [List.all_eq_true]
    intro x hx
    obtain ⟨a, _, rfl⟩ := List.mem_map.mp hx
    exact h.ok a, fun a b => (deq_tup m m _ _).trans (deqL_map d h.eq a b)⟩
theorem EqD_opt [DecidableEq α] {n : Nat} {d : α → D} (h : EqD n d) (h1 : ∀ a, deq (d a) .non = false) (h2 : ∀ a, deq .non (d a) = false) : EqD n (dO d) := ⟨fun o => by
    cases o with
    | none => exact okD_non n
    | some a => exact h.ok a, fun a b => by
    cases a with
    | none =>
      cases b with
      | none => exact deq_non
      | some b => exact (h2 b).trans (by simp)
    | some a =>
      cases b with
      | none => exact (h1 a).trans (by simp)
      | some b => exact (h.eq a b).trans (decide_eq_decide.mpr ⟨fun e => by rw [e], fun e => Option.some.inj e⟩)⟩
theorem EqD_p2 [DecidableEq α] [DecidableEq β] {n : Nat} {d1 : α → D} {d2 : β → D} (h1 : EqD n d1) (h2 : EqD n d2) : EqD (n + 1) (dP2 d1 d2) := ⟨fun p => by
    show [d1 p.1, d2 p.2].all (okD n) = true
    simp [h1.ok, h2.ok], fun a b => by
    rw [deq_tup, deqL_cons, deqL_cons, deqL_nil, h1.eq, h2.eq, Bool.and_true, ← Bool.decide_and]
    exact decide_eq_decide.mpr ⟨fun h => Prod.ext h.1 h.2, fun h => by rw [h]; exact ⟨rfl, rfl⟩⟩⟩
theorem nonI1 (a : Int) : deq (dI a) .non = false := deq_int_non a
theorem nonI2 (a : Int) : deq .non (dI a) = false := deq_non_int a
theorem nonT1 {m : Bool} {d : α → D} (a : List α) : deq (dT m d a) .non = false := deq_tup_non m _
theorem nonT2 {m : Bool} {d : α → D} (a : List α) : deq .non (dT m d a) = false := deq_non_tup m _
theorem op_eq [DecidableEq α] {x y : O} {d : α → D} {a b : α} (h : EqD 60 d) (hx : x.frz = d a) (hy : y.frz = d b) : EG (ofO (oEq x y)) (.ok (decide (a = b))) (sh dB) := by
  rw [oEq_of (by rw [hx]; exact h.ok a) (by rw [hy]; exact h.ok b), hx, hy, h.eq]; exact rfl
theorem op_ne [DecidableEq α] {x y : O} {d : α → D} {a b : α} (h : EqD 60 d) (hx : x.frz = d a) (hy : y.frz = d b) : EG (ofO (oNe x y)) (.ok (!decide (a = b))) (sh dB) := by
  rw [oNe_of (by rw [hx]; exact h.ok a) (by rw [hy]; exact h.ok b), hx, hy, h.eq]; exact rfl
def memB [DecidableEq α] (a : α) (l : List α) : Bool := decide (a ∈ l)
@[simp] theorem memB_true [DecidableEq α] (a : α) (l : List α) : (memB a l = true) = (a ∈ l) := by unfold memB; exact decide_eq_true_eq
@[simp] theorem memB_false [DecidableEq α] (a : α) (l : List α) : (memB a l = false) = (a ∉ l) := by unfold memB; exact propext decide_eq_false_iff_not
theorem any_mem [DecidableEq α] {d : α → D} {n : Nat} (h : EqD n d) (l : List α) (x : α) : ((l.map d).any fun z => deq z (d x)) = decide (x ∈ l) := by
  induction l with
  | nil => rfl
  | cons a r ih =>
    rw [List.map_cons, List.any_cons, ih, h.eq, ← Bool.decide_or]
    exact decide_eq_decide.mpr ⟨fun h => by
      rcases h with h | h
      · rw [h]; exact List.mem_cons_self
      · exact List.mem_cons_of_mem _ h, fun h => by
      rcases List.mem_cons.mp h with h | h
      · exact .inl h.symm
      · exact .inr h⟩
theorem op_in [DecidableEq α] {x y : O} {d : α → D} {a : α} {l : List α} (h : EqD 59 d) (h6 : EqD 60 d) (hx : x.frz = d a) (hy : itemsP y.frz = some (l.map d)) : EG (ofO (oIn x y)) (.ok (memB a l)) (sh dB) := by
  rw [oIn_seq hy (by rw [hx]; exact h6.ok a) (by
    rw [List.all_eq_true]
    intro z hz
    obtain ⟨a, _, rfl⟩ := List.mem_map.mp hz
    exact h.ok a), hx, any_mem h]
  exact rfl
theorem op_notIn [DecidableEq α] {x y : O} {d : α → D} {a : α} {l : List α} (h : EqD 59 d) (h6 : EqD 60 d) (hx : x.frz = d a) (hy : itemsP y.frz = some (l.map d)) : EG (ofO (oNotIn x y)) (.ok (!memB a l)) (sh dB) := by
  rw [oNotIn_seq hy (by rw [hx]; exact h6.ok a) (by
    rw [List.all_eq_true]
    intro z hz
    obtain ⟨a, _, rfl⟩ := List.mem_map.mp hz
    exact h.ok a), hx, any_mem h]
  exact rfl
theorem itP_lst {y : O} {d : α → D} {l : List α} (h : y.frz = dL d l) : itemsP y.frz = some (l.map d) := by rw [h]; exact itemsP_lst _
theorem itP_tup {y : O} {m : Bool} {d : α → D} {l : List α} (h : y.frz = dT m d l) : itemsP y.frz = some (l.map d) := by rw [h]; exact itemsP_tup m _
theorem op_isO {d : α → D} (hd : ∀ a, isNo (.sh (d a)) = false) (o : Option α) : EG (ofO (oIs (sh (dO d) o) (.sh .non))) (.ok o.isNone) (sh dB) := by
  cases o with
  | none => exact rfl
  | some a =>
    show ofO (some (O.sh (.bl (isNo (.sh (d a)))))) = _
    rw [hd]; rfl
theorem op_isNotO {d : α → D} (hd : ∀ a, isNo (.sh (d a)) = false) (o : Option α) : EG (ofO (oIsNot (sh (dO d) o) (.sh .non))) (.ok o.isSome) (sh dB) := by
  cases o with
  | none => exact rfl
  | some a =>
    show ofO (some (O.sh (.bl (!isNo (.sh (d a)))))) = _
    rw [hd]; rfl
def getM : Option α → M α
  | some a => .ok a
  | none => .stk
theorem EG_get {r : RP} {o : Option α} {d : α → D} (h : EG r (.ok o) (sh (dO d))) : EG r (getM o) (sh d) := by
  cases o with
  | none => trivial
  | some a => exact h
theorem EG_getm {r : RP} {t : M (Option α)} {d : α → D} (h : EG r t (sh (dO d))) : EG r (t.bind getM) (sh d) := by
  cases t with
  | ok o => exact EG_get h
  | exc c u => exact h
  | stk => trivial
/-! places -/
def atM (l : List α) (i : Int) : M α := ofO (atI l i)
theorem atI_map {f : α → β} (l : List α) (i : Int) : atI (l.map f) i = (atI l i).map f := by
  unfold atI
  rw [List.length_map]
  cases ixN l.length i with
  | none => rfl
  | some k => rw [Option.bind_some, Option.bind_some, List.getElem?_map]
theorem op_at {x : O} {b : Bool} {d : α → D} {l : List α} {i : Int} (h : itemsD x = some (b, l.map d)) : EG (ofO (oAt x (sh dI i))) (atM l i) (sh d) := by
  unfold atM
  cases q : atI l i with
  | none => trivial
  | some a =>
    show ofO (oAt x (.sh (.int i))) = R.ok (.sh (d a))
    rw [oAt_seq h (by rw [atI_map, q]; rfl)]; rfl
theorem itD_lst (d : α → D) (l : List α) : itemsD (sh (dL d) l) = some (true, l.map d) := itemsD_lst _
theorem itD_tup (m : Bool) (d : α → D) (l : List α) : itemsD (sh (dT m d) l) = some (false, l.map d) := itemsD_tup m _
theorem itD_own (d : α → D) (l : List α) : itemsD (oL (sh d) l) = some (true, l.map d) := by
  have := itemsD_own (l.map d)
  rwa [List.map_map] at this
theorem look_map {κ : Type} [DecidableEq κ] {f : α → β} {k : κ} : ∀ l : List (κ × α), look (l.map fun p => (p.1, f p.2)) k = (look l k).map f
  | [] => rfl
  | p :: l => by
    have ih := look_map (f := f) (k := k) l
    unfold look at ih ⊢
    rw [List.map_cons, List.find?_cons, List.find?_cons]
    by_cases h : p.1 = k
    · simp [h]
    · simp only [h, decide_false]; exact ih
theorem look_inl {k : Int} : ∀ l : List (Int × α), look (l.map fun p => ((.inl p.1 : Key), p.2)) (.inl k) = look l k
  | [] => rfl
  | p :: l => by
    have ih := look_inl (k := k) l
    unfold look at ih ⊢
    rw [List.map_cons, List.find?_cons, List.find?_cons]
    by_cases h : p.1 = k
    · simp [h]
    · have : ¬ (Sum.inl p.1 : Key) = Sum.inl k := fun e => h (Sum.inl.inj e)
      simp only [h, this, decide_false]; exact ih
theorem look_dK (d : α → D) (l : List (Int × α)) (k : Int) : look (l.map fun p => ((.inl p.1 : Key), d p.2)) (.inl k) = (look l k).map d := by
  rw [← look_inl l, ← look_map, List.map_map]; rfl
def lookM (l : List (Int × α)) (k : Int) : M α := ofO (look l k)
theorem op_atK (d : α → D) (l : List (Int × α)) (k : Int) : EG (ofO (oAt (sh (dK d) l) (sh dI k))) (lookM l k) (sh d) := by
  unfold lookM
  cases q : look l k with
  | none => trivial
  | some a =>
    show ofO (oAt _ _) = R.ok (.sh (d a))
    have h1 : dGet (sh (dK d) l) (sh dI k) = some (some (.sh (d a))) := by
      show some ((look (l.map fun p => ((.inl p.1 : Key), d p.2)) (.inl k)).map O.sh) = _
      rw [look_dK, q]; rfl
    have h2 : oAt (sh (dK d) l) (sh dI k) = some (.sh (d a)) := by
      unfold oAt orE
      have h3 : oIx (sh (dK d) l) (sh dI k) = none := rfl
      rw [h3]
      dsimp only
      unfold oIxD
      rw [h1]; rfl
    rw [h2]; rfl
theorem EG_dget {f g : En → RP} {env : En} {s : M (List (Int × α))} {t : M Int} {d : α → D} (h : EG (f env) s (sh (dK d))) (h2 : EG (g env) t (sh dI)) : EG (bDGet f g env) (s.bind fun l => t.bind fun k => .ok (look l k)) (sh (dO d)) := by
  unfold bDGet
  refine h.bind fun l => ?_
  rw [if_pos (show isDct (sh (dK d) l) = true from rfl)]
  refine h2.bind fun k => ?_
  have h1 : dGet (sh (dK d) l) (sh dI k) = some ((look l k).map (sh d)) := by
    show some ((look (l.map fun p => ((.inl p.1 : Key), d p.2)) (.inl k)).map O.sh) = _
    rw [look_dK, Option.map_map]; rfl
  rw [h1]
  cases look l k with
  | none => exact rfl
  | some a => exact rfl
theorem EG_dgetp {f g : En → RP} {env : En} {l : List (Int × α)} {k : Int} {d : α → D} (h : EG (f env) (.ok l) (sh (dK d))) (h2 : EG (g env) (.ok k) (sh dI)) : EG (bDGet f g env) (.ok (look l k)) (sh (dO d)) := EG_dget h h2
/-! built-ins -/
theorem op_len {x : O} {b : Bool} {xs : List O} {f : α → O} {l : List α} (h : seqO x = some (b, xs)) (hx : xs = l.map f) (hs : ∀ s, x ≠ .sh (.str s)) : EG (ofO (oLen [x])) (.ok (l.length : Int)) (sh dI) := by
  have : oLen [x] = some (.sh (.int xs.length)) := by
    unfold oLen
    split
    · rename_i s e; cases e; exact absurd rfl (hs s)
    · rename_i y _ e; cases e; rw [h]; rfl
    · rename_i h1 h2; exact absurd rfl (h2 x)
  rw [this, hx, List.length_map]; exact rfl
theorem op_lenL (d : α → D) (l : List α) : EG (ofO (oLen [sh (dL d) l])) (.ok (l.length : Int)) (sh dI) := op_len (f := sh d) (x := sh (dL d) l) rfl (by rw [List.map_map]; rfl) fun s e => by cases e
theorem op_lenT (m : Bool) (d : α → D) (l : List α) : EG (ofO (oLen [sh (dT m d) l])) (.ok (l.length : Int)) (sh dI) := op_len (f := sh d) (x := sh (dT m d) l) rfl (by rw [List.map_map]; rfl) fun s e => by cases e
theorem op_lenX (d : α → D) (l : Bool × List α) : EG (ofO (oLen [sh (dX d) l])) (.ok (l.2.length : Int)) (sh dI) := op_len (f := sh d) (x := sh (dX d) l) rfl (by rw [List.map_map]; rfl) fun s e => by cases e
theorem op_lenO (e : α → O) (l : List α) : EG (ofO (oLen [oL e l])) (.ok (l.length : Int)) (sh dI) := op_len (f := e) (x := oL e l) rfl rfl fun s e => by cases e
theorem op_tupleT (m : Bool) (d : α → D) (l : List α) : EG (ofO (oTuple [sh (dT m d) l])) (.ok l) (sh (dT m d)) := rfl
theorem op_tuple {x : O} {d : α → D} {l : List α} (h : itemsD x = some (true, l.map d)) (hs : ∀ m xs, x ≠ .sh (.tup m xs)) : EG (ofO (oTuple [x])) (.ok l) (sh (dT false d)) := by
  have : oTuple [x] = some (.sh (.tup false (l.map d))) := by
    unfold oTuple
    split
    · rename_i m xs e; cases e; exact absurd rfl (hs m xs)
    · rename_i y _ e; cases e; rw [h]; rfl
    · rename_i h1 h2; exact absurd rfl (h2 x)
  rw [this]; exact rfl
theorem op_tupleL (d : α → D) (l : List α) : EG (ofO (oTuple [sh (dL d) l])) (.ok l) (sh (dT false d)) := op_tuple (itD_lst d l) fun m xs e => by cases e
theorem op_tupleO (d : α → D) (l : List α) : EG (ofO (oTuple [oL (sh d) l])) (.ok l) (sh (dT false d)) := op_tuple (itD_own d l) fun m xs e => by cases e
theorem op_tupleMT (m : Bool) (d : α → D) (l : List α) : EG (ofO (oTupleM [sh (dT m d) l])) (.ok l) (sh (dT m d)) := rfl
theorem op_tupleM {x : O} {d : α → D} {l : List α} (h : itemsD x = some (true, l.map d)) (hs : ∀ m xs, x ≠ .sh (.tup m xs)) : EG (ofO (oTupleM [x])) (.ok l) (sh (dT true d)) := by
  have : oTupleM [x] = some (.sh (.tup true (l.map d))) := by
    unfold oTupleM
    split
    · rename_i m xs e; cases e; exact absurd rfl (hs m xs)
    · rename_i y _ e; cases e; rw [h]; rfl
    · rename_i h1 h2; exact absurd rfl (h2 x)
  rw [this]; exact rfl
theorem op_tupleML (d : α → D) (l : List α) : EG (ofO (oTupleM [sh (dL d) l])) (.ok l) (sh (dT true d)) := op_tupleM (itD_lst d l) fun m xs e => by cases e
theorem op_tupleMO (d : α → D) (l : List α) : EG (ofO (oTupleM [oL (sh d) l])) (.ok l) (sh (dT true d)) := op_tupleM (itD_own d l) fun m xs e => by cases e
theorem op_list {x : O} {b : Bool} {d : α → D} {l : List α} (h : itemsD x = some (b, l.map d)) : EG (ofO (oList [x])) (.ok l) (oL (sh d)) := by
  unfold oList
  dsimp only
  rw [h]
  show ofO (some (O.lst ((l.map d).map O.sh))) = _
  rw [List.map_map]; rfl
theorem op_sorted {x : O} {l : List Int} (h : itemsD x = some (true, l.map dI)) : EG (ofO (oSorted [x])) (.ok (sortI l)) (oL (sh dI)) := by
  unfold oSorted
  dsimp only
  rw [h, Option.bind_some]
  dsimp only
  rw [if_pos rfl]
  have : intsD (l.map dI) = some l := by
    have := intsO_ints l
    unfold intsO at this
    rwa [allSh_ints, Option.bind_some] at this
  rw [this]; exact rfl
theorem op_plusT {m m' : Bool} (d : α → D) (x y : List α) : EG (ofO (oPlus (sh (dT m d) x) (sh (dT m' d) y))) (grd (decide (x.length + y.length ≤ lim)) (.ok (if x.isEmpty then m' else if y.isEmpty then m else false, x ++ y)) .stk) (sh (dX d)) := by
  have h : oPlus (sh (dT m d) x) (sh (dT m' d) y) = if (x.map d).length + (y.map d).length ≤ lim then some (O.sh (if (x.map d).isEmpty then .tup m' (y.map d) else if (y.map d).isEmpty then .tup m (x.map d) else .tup false (x.map d ++ y.map d))) else none := by
    unfold oPlus orE
    show (match (none : Option O) with
      | some z => some z
      | none => match catT (sh (dT m d) x) (sh (dT m' d) y) with
        | some z => some z
        | none => _) = _
    dsimp only [catT]
    split
    · rename_i z e; exact e.symm
    · rename_i e
      rw [e]; rfl
  rw [h, List.length_map, List.length_map]
  by_cases hz : x.length + y.length ≤ lim
  · rw [if_pos hz, decide_eq_true hz]
    cases x with
    | nil => exact rfl
    | cons a x =>
      cases y with
      | nil =>
        show R.ok (O.sh (.tup m ((a :: x).map d))) = R.ok (O.sh (.tup m ((a :: x ++ []).map d)))
        rw [List.append_nil]
      | cons b y =>
        show R.ok (O.sh (.tup false ((a :: x).map d ++ (b :: y).map d))) = R.ok (O.sh (.tup false ((a :: x ++ b :: y).map d)))
        rw [List.map_append]
  · rw [decide_eq_false hz]; trivial
theorem op_plusF (d : α → D) (x y : List α) : EG (ofO (oPlus (sh (dT false d) x) (sh (dT false d) y))) (grd (szOk (x.length + y.length)) (.ok (x ++ y)) .stk) (sh (dT false d)) := by
  have := op_plusT (m := false) (m' := false) d x y
  unfold szOk
  by_cases hz : x.length + y.length ≤ lim
  · rw [decide_eq_true hz] at this ⊢
    have h2 : ofO (oPlus (sh (dT false d) x) (sh (dT false d) y)) = R.ok (O.sh (.tup (if x.isEmpty then false else if y.isEmpty then false else false) ((x ++ y).map d))) := this
    show ofO _ = R.ok _
    rw [h2]
    congr 4
    cases x.isEmpty <;> cases y.isEmpty <;> rfl
  · rw [decide_eq_false hz]; trivial
theorem op_plusL {x y : O} {d : α → D} {l r : List α} (hx : lstO x = some (l.map d)) (hy : lstO y = some (r.map d)) (h1 : oAdd x y = none) (h2 : catT x y = none) : EG (ofO (oPlus x y)) (grd (szOk (l.length + r.length)) (.ok (l ++ r)) .stk) (oL (sh d)) := by
  unfold oPlus orE szOk
  rw [h1]
  dsimp only
  rw [h2]
  dsimp only
  unfold catL
  rw [hx, hy, Option.bind_some, Option.bind_some, List.length_map, List.length_map]
  by_cases hz : l.length + r.length ≤ lim
  · rw [if_pos hz, decide_eq_true hz]
    show R.ok (O.lst ((l.map d ++ r.map d).map O.sh)) = R.ok (O.lst ((l ++ r).map (sh d)))
    rw [← List.map_append, List.map_map]; rfl
  · rw [decide_eq_false hz]; trivial
theorem lsO_sh (d : α → D) (l : List α) : lstO (sh (dL d) l) = some (l.map d) := rfl
theorem lsO_own (d : α → D) (l : List α) : lstO (oL (sh d) l) = some (l.map d) := allSh_sh d l
noncomputable def repM (l : List α) (k : Int) : M (List α) := grd (okI k && decide (l.length * k.toNat ≤ lim)) (.ok (List.replicate k.toNat l).flatten) .stk
theorem op_rep {x : O} {d : α → D} {l : List α} {k : Int} (hx : lstO x = some (l.map d)) (h1 : oMul x (sh dI k) = none) : EG (ofO (oStar x (sh dI k))) (repM l k) (oL (sh d)) := by
  unfold oStar orE repM
  rw [h1]
  dsimp only
  unfold repL
  rw [hx, Option.bind_some, show asI (sh dI k) = some k from rfl, Option.bind_some, List.length_map]
  cases okI k && decide (l.length * k.toNat ≤ lim) with
  | false => trivial
  | true =>
    show R.ok (O.lst ((List.replicate k.toNat (l.map d)).flatten.map O.sh)) = R.ok (O.lst ((List.replicate k.toNat l).flatten.map (sh d)))
    have : ∀ n : Nat, (List.replicate n (l.map d)).flatten = (List.replicate n l).flatten.map d := fun n => by
      induction n with
      | zero => rfl
      | succ n ih => rw [List.replicate_succ, List.replicate_succ, List.flatten_cons, List.flatten_cons, List.map_append, ih]
    rw [this, List.map_map]; rfl
/-! slices -/
theorem cutG_map {f : α → β} (l : List α) (a b : Option Int) : cutG (l.map f) a b = (cutG l a b).map f := by
  unfold cutG
  rw [List.length_map, List.map_take, List.map_drop]
theorem op_slL {x : O} {d : α → D} {l : List α} {a b : Option Int} (h : itemsD x = some (true, l.map d)) (hs : ∀ m xs, x ≠ .sh (.tup m xs)) : EG (ofO (oSl x a b)) (.ok (cutG l a b)) (oL (sh d)) := by
  have : oSl x a b = some (.lst ((cutG (l.map d) a b).map .sh)) := by
    unfold oSl
    split
    · rename_i m xs; exact absurd rfl (hs m xs)
    · rw [h]; rfl
  rw [this, cutG_map, List.map_map]; exact rfl
theorem op_slLst (d : α → D) (l : List α) (a b : Option Int) : EG (ofO (oSl (sh (dL d) l) a b)) (.ok (cutG l a b)) (oL (sh d)) := op_slL (itD_lst d l) fun m xs e => by cases e
theorem op_slOwn (d : α → D) (l : List α) (a b : Option Int) : EG (ofO (oSl (oL (sh d) l) a b)) (.ok (cutG l a b)) (oL (sh d)) := op_slL (itD_own d l) fun m xs e => by cases e
theorem cutG_whole (l : List α) (a b : Option Int) (h : wholeG l.length a b = true) : cutG l a b = l := by
  unfold wholeG at h
  rw [Bool.and_eq_true] at h
  unfold cutG
  rw [of_decide_eq_true h.1, of_decide_eq_true h.2, List.drop_zero, Nat.sub_zero, List.take_length]
theorem op_slF (d : α → D) (l : List α) (a b : Option Int) : EG (ofO (oSl (sh (dT false d) l) a b)) (.ok (cutG l a b)) (sh (dT false d)) := by
  show ofO (some (O.sh (if wholeG (l.map d).length a b = true then D.tup false (l.map d) else .tup false (cutG (l.map d) a b)))) = _
  rw [List.length_map, cutG_map]
  cases h : wholeG l.length a b with
  | true => rw [cutG_whole l a b h]; rfl
  | false => rfl
theorem op_slT (m : Bool) (d : α → D) (l : List α) (a b : Option Int) : EG (ofO (oSl (sh (dT m d) l) a b)) (.ok (wholeG l.length a b && m, cutG l a b)) (sh (dX d)) := by
  show ofO (some (O.sh (if wholeG (l.map d).length a b = true then D.tup m (l.map d) else .tup false (cutG (l.map d) a b)))) = _
  rw [List.length_map, cutG_map]
  cases h : wholeG l.length a b with
  | true => rw [cutG_whole l a b h]; rfl
  | false => rfl
theorem op_slS (d : α → D) (l : List α) (a b : Option Int) : EG (ofO (oSlS (sh (dF d) l) a b)) (.ok (cutG l a b)) (oL (sh d)) := by
  show ofO (some (O.lst ((cutG (l.map d) a b).map .sh))) = _
  rw [cutG_map, List.map_map]; rfl
/-! index -/
def idxM [DecidableEq α] (l : List α) (x : α) : M Int := match l.findIdx? (fun z => decide (z = x)) with
  | some j => .ok (j : Nat)
  | none => .stk
theorem idxD_map [DecidableEq α] {n : Nat} {d : α → D} (h : EqD n d) (l : List α) (x : α) : idxD (l.map d) (d x) = l.findIdx? (fun z => decide (z = x)) := by
  unfold idxD
  rw [List.findIdx?_map]
  congr 1
  funext z
  exact h.eq z x
theorem EG_idxT [DecidableEq α] {f g : En → RP} {env : En} {s : M (List α)} {t : M α} {d : α → D} (hq : EqD 60 d) (h : EG (f env) s (sh (dT true d))) (h2 : EG (g env) t (sh d)) : EG (bIdx f g env) (s.bind fun l => t.bind fun x => idxM l x) (sh dI) := by
  unfold bIdx
  refine h.bind fun l => ?_
  dsimp only
  refine h2.bind fun x => ?_
  dsimp only
  rw [if_pos (by
    rw [Bool.and_eq_true]
    exact ⟨pyOkL_of (by
      rw [List.all_eq_true]
      intro z hz
      obtain ⟨a, _, rfl⟩ := List.mem_map.mp hz
      exact hq.ok a), pyOk_of (hq.ok x)⟩), idxD_map hq]
  unfold idxM
  cases l.findIdx? (fun z => decide (z = x)) with
  | none => trivial
  | some j => exact rfl
theorem EG_idxTp [DecidableEq α] {f g : En → RP} {env : En} {l : List α} {x : α} {d : α → D} (hq : EqD 60 d) (h : EG (f env) (.ok l) (sh (dT true d))) (h2 : EG (g env) (.ok x) (sh d)) : EG (bIdx f g env) (idxM l x) (sh dI) := EG_idxT hq h h2
theorem EG_idxL [DecidableEq α] {f g : En → RP} {env : En} {s : M (List α)} {t : M α} {d : α → D} (hq : EqD 60 d) (h : EG (f env) s (sh (dL d))) (h2 : EG (g env) t (sh d)) : EG (bIdx f g env) (s.bind fun l => t.bind fun x => idxM l x) (sh dI) := by
  unfold bIdx
  refine h.bind fun l => ?_
  dsimp only
  refine h2.bind fun x => ?_
  dsimp only
  rw [if_pos (by
    rw [Bool.and_eq_true]
    exact ⟨pyOkL_of (by
      rw [List.all_eq_true]
      intro z hz
      obtain ⟨a, _, rfl⟩ := List.mem_map.mp hz
      exact hq.ok a), pyOk_of (hq.ok x)⟩), idxD_map hq]
  unfold idxM
  cases l.findIdx? (fun z => decide (z = x)) with
  | none => trivial
  | some j => exact rfl
theorem EG_idxLp [DecidableEq α] {f g : En → RP} {env : En} {l : List α} {x : α} {d : α → D} (hq : EqD 60 d) (h : EG (f env) (.ok l) (sh (dL d))) (h2 : EG (g env) (.ok x) (sh d)) : EG (bIdx f g env) (idxM l x) (sh dI) := EG_idxL hq h h2
/-! ranges, displays -/
noncomputable def rngM (a b : Int) : M (List Int) := grd (okR a b) (.ok (rngT a b)) .stk
theorem EG_rg1 {f : En → RP} {env : En} {j : Int} (h : EG (f env) (.ok j) (sh dI)) : EG (rg1 f env) (.ok (0, j)) id := by
  unfold rg1
  exact h.bindp rfl
theorem EG_rg1m {f : En → RP} {env : En} {t : M Int} (h : EG (f env) t (sh dI)) : EG (rg1 f env) (t.bind fun j => .ok (0, j)) id := by
  unfold rg1
  exact h.bind fun v => rfl
theorem EG_rg2 {f g : En → RP} {env : En} {i j : Int} (h : EG (f env) (.ok i) (sh dI)) (h2 : EG (g env) (.ok j) (sh dI)) : EG (rg2 f g env) (.ok (i, j)) id := by
  unfold rg2
  exact h.bindp (h2.bindp rfl)
theorem EG_lstR {f : En → R Unit (Int × Int)} {env : En} {a b : Int} (h : EG (f env) (.ok (a, b)) id) : EG (bLstR f env) (rngM a b) (oL (sh dI)) := by
  unfold bLstR rngM
  refine h.bindp ?_
  show EG (if okR a b = true then (R.ok (O.lst ((rngD a b).map .sh)) : RP) else .stk) _ _
  cases okR a b with
  | false => trivial
  | true =>
    show R.ok _ = R.ok _
    rw [rngD_map, List.map_map]; rfl
theorem EG_tupR {f : En → R Unit (Int × Int)} {env : En} {a b : Int} (h : EG (f env) (.ok (a, b)) id) : EG (bTupR f env) (rngM a b) (sh (dT false dI)) := by
  unfold bTupR rngM
  refine h.bindp ?_
  show EG (if okR a b = true then (R.ok (O.sh (.tup false (rngD a b))) : RP) else .stk) _ _
  cases okR a b with
  | false => trivial
  | true =>
    show R.ok _ = R.ok _
    rw [rngD_map]
theorem EG_lstRm {f : En → R Unit (Int × Int)} {env : En} {t : M (Int × Int)} (h : EG (f env) t id) : EG (bLstR f env) (t.bind fun p => rngM p.1 p.2) (oL (sh dI)) := by
  cases t with
  | ok p => exact EG_lstR h
  | exc c u => unfold bLstR; rw [show f env = .exc c () from h]; exact rfl
  | stk => trivial
theorem EG_tupRm {f : En → R Unit (Int × Int)} {env : En} {t : M (Int × Int)} (h : EG (f env) t id) : EG (bTupR f env) (t.bind fun p => rngM p.1 p.2) (sh (dT false dI)) := by
  cases t with
  | ok p => exact EG_tupR h
  | exc c u => unfold bTupR; rw [show f env = .exc c () from h]; exact rfl
  | stk => trivial
theorem EG_bTup {f : En → R Unit (List O)} {env : En} {t : M α} {e : α → List O} {d : α → List D} {k : Nat} (h : EG (f env) t e) (hs : ∀ v, allSh (e v) = some (d v)) (hk : ∀ v, (d v).length = k) (hz : k ≤ 1000) : EG (bTup f env) t (fun v => .sh (.tup false (d v))) := by
  unfold bTup
  cases t with
  | ok v =>
    rw [show f env = .ok (e v) from h, bind_ok, hs, Option.bind_some, hk, if_pos (szOk_le (by omega))]
    exact rfl
  | exc c u => rw [show f env = .exc c () from h]; exact rfl
  | stk => trivial
theorem EG_bLst {f : En → R Unit (List O)} {env : En} {t : M α} {e : α → List O} {d : α → List D} {k : Nat} (h : EG (f env) t e) (hs : ∀ v, allSh (e v) = some (d v)) (hk : ∀ v, (d v).length = k) (hz : k ≤ 1000) : EG (bLst f env) t (fun v => .lst ((d v).map .sh)) := by
  unfold bLst
  cases t with
  | ok v =>
    rw [show f env = .ok (e v) from h, bind_ok, hs, Option.bind_some, hk, if_pos (szOk_le (by omega))]
    exact rfl
  | exc c u => rw [show f env = .exc c () from h]; exact rfl
  | stk => trivial
theorem EX_eTup {f : En → R En (List O × En)} {env : En} {t : M α} {e : α → List O} {E : α → En} {d : α → D} {k : Nat} (h : EX (f env) t e E) (hk : ∀ v, (e v).length = k) (hz : k ≤ 1000) (hd : ∀ v, D.tup false ((e v).map O.frz) = d v) : EX (eTup f env) t (sh d) E := by
  unfold eTup
  cases t with
  | ok v =>
    rw [show f env = .ok (e v, E v) from h, bind_ok]
    dsimp only
    rw [hk, if_pos (szOk_le (by omega)), hd]
    exact rfl
  | exc c u => obtain ⟨e1, h⟩ := h; rw [h]; exact ⟨e1, rfl⟩
  | stk => trivial
theorem EX_eLst {f : En → R En (List O × En)} {env : En} {t : M α} {e : α → List O} {E : α → En} {k : Nat} (h : EX (f env) t e E) (hk : ∀ v, (e v).length = k) (hz : k ≤ 1000) : EX (eLst f env) t (fun v => .lst (e v)) E := by
  unfold eLst
  cases t with
  | ok v =>
    rw [show f env = .ok (e v, E v) from h, bind_ok]
    dsimp only
    rw [hk, if_pos (szOk_le (by omega))]
    exact rfl
  | exc c u => obtain ⟨e1, h⟩ := h; rw [h]; exact ⟨e1, rfl⟩
  | stk => trivial
/-! dicts made -/
theorem putG_inl {k : Int} {v : α} (l : List (Int × α)) : putG (l.map fun p => ((.inl p.1 : Key), p.2)) (.inl k) v = (putG l k v).map fun p => ((.inl p.1 : Key), p.2) := by
  unfold putG
  have h1 : ((l.map fun p => ((.inl p.1 : Key), p.2)).any fun kv => decide (kv.1 = .inl k)) = l.any fun kv => decide (kv.1 = k) := by
    rw [List.any_map]
    congr 1
    funext p
    exact decide_eq_decide.mpr ⟨fun e => Sum.inl.inj e, fun e => congrArg _ e⟩
  rw [h1]
  cases l.any fun kv => decide (kv.1 = k) with
  | true =>
    rw [if_pos rfl, if_pos rfl, List.map_map, List.map_map]
    apply List.map_congr_left
    intro p _
    show (if (.inl p.1 : Key) = .inl k then ((.inl p.1 : Key), v) else ((.inl p.1 : Key), p.2)) = _
    by_cases h : p.1 = k
    · simp [h]
    · have : ¬ (Sum.inl p.1 : Key) = Sum.inl k := fun e => h (Sum.inl.inj e)
      simp [h, this]
  | false => simp
theorem putG_val {κ : Type} [DecidableEq κ] {f : α → β} {k : κ} {v : α} (l : List (κ × α)) : putG (l.map fun p => (p.1, f p.2)) k (f v) = (putG l k v).map fun p => (p.1, f p.2) := by
  unfold putG
  have h1 : ((l.map fun p => (p.1, f p.2)).any fun kv => decide (kv.1 = k)) = l.any fun kv => decide (kv.1 = k) := by
    rw [List.any_map]; rfl
  rw [h1]
  cases l.any fun kv => decide (kv.1 = k) with
  | true =>
    rw [if_pos rfl, if_pos rfl, List.map_map, List.map_map]
    apply List.map_congr_left
    intro p _
    show (if p.1 = k then (p.1, f v) else (p.1, f p.2)) = _
    by_cases h : p.1 = k
    · simp [h]
    · simp [h]
  | false => simp
theorem mergeG_dK (d : α → D) : ∀ (more l : List (Int × α)), mergeG (l.map fun p => ((.inl p.1 : Key), d p.2)) (more.map fun p => ((.inl p.1 : Key), d p.2)) = (mergeG l more).map fun p => ((.inl p.1 : Key), d p.2)
  | [], l => rfl
  | q :: more, l => by
    have h : putG (l.map fun p => ((.inl p.1 : Key), d p.2)) (.inl q.1) (d q.2) = (putG l q.1 q.2).map fun p => ((.inl p.1 : Key), d p.2) := by
      have h1 := putG_val (f := d) (k := (.inl q.1 : Key)) (v := q.2) (l.map fun p => ((.inl p.1 : Key), p.2))
      rw [List.map_map, putG_inl, List.map_map] at h1
      exact h1
    have ih := mergeG_dK d more (putG l q.1 q.2)
    unfold mergeG at ih ⊢
    rw [List.map_cons, List.foldl_cons, List.foldl_cons]
    dsimp only
    rw [h, ih]
theorem pairsD_map (d : α → D) : ∀ l : List (Int × α), pairsD (l.map (dP2 dI d)) = some (l.map fun p => ((.inl p.1 : Key), d p.2))
  | [] => rfl
  | p :: l => by
    rw [List.map_cons, pairsD, pairsD_map d l]; rfl
theorem op_dict {x : O} {d : α → D} {l : List (Int × α)} (h : itemsD x = some (true, l.map (dP2 dI d))) : EG (ofO (oDict [x])) (.ok (mergeG [] l)) (fun r => .dK (r.map fun p => ((.inl p.1 : Key), O.sh (d p.2)))) := by
  unfold oDict
  dsimp only
  rw [h, Option.bind_some]
  dsimp only
  rw [if_pos rfl, pairsD_map, Option.bind_some]
  have := mergeG_dK d l []
  rw [List.map_nil] at this
  rw [this]
  show R.ok (O.dK (((mergeG [] l).map fun p => ((.inl p.1 : Key), d p.2)).map fun q => (q.1, O.sh q.2))) = R.ok _
  rw [List.map_map]; rfl
@[reducible] def oK (d : α → D) : List (Int × α) → O := fun r => .dK (r.map fun p => ((.inl p.1 : Key), O.sh (d p.2)))
theorem fz_oK (d : α → D) (l : List (Int × α)) : (oK d l).frz = dK d l := by
  show (O.dK _).frz = _
  rw [frz_dK, List.map_map]
  show D.dK (l.map fun p => ((.inl p.1 : Key), (O.sh (d p.2)).frz)) = D.dK (l.map fun p => ((.inl p.1 : Key), d p.2))
  simp only [frz_sh]
/-! fields -/
theorem fld_at {fs : List (Str × D)} {c : Nat} {f : Str} {y : D} (names : List Str) (k : Nat) (hn : fs.map (·.1) = names) (h1 : names[k]? = some f) (h2 : (names.take k).contains f = false) (hv : fs[k]? = some (f, y)) : fldO f (.sh (.ins c fs)) = some (.sh y) := by
  show (fs.lookup f).map O.sh = _
  have : ∀ (k : Nat) (fs : List (Str × D)), fs[k]? = some (f, y) → ((fs.map (·.1)).take k).contains f = false → fs.lookup f = some y := by
    intro k
    induction k with
    | zero =>
      intro fs h _
      cases fs with
      | nil => cases h
      | cons p fs => cases h; rw [List.lookup_cons, beq_self_eq_true]
    | succ k ih =>
      intro fs h h2
      cases fs with
      | nil => cases h
      | cons p fs =>
        obtain ⟨g, z⟩ := p
        rw [List.map_cons, List.take_succ_cons, List.contains_cons, Bool.or_eq_false_iff] at h2
        rw [List.lookup_cons, h2.1]
        exact ih fs h h2.2
  rw [this k fs hv (by rw [hn]; exact h2)]; rfl
theorem fldO_at {fs : List (Str × O)} {c : Nat} {f : Str} {y : O} (names : List Str) (k : Nat) (hn : fs.map (·.1) = names) (h1 : names[k]? = some f) (h2 : (names.take k).contains f = false) (hv : fs[k]? = some (f, y)) : fldO f (.ins c fs) = some y := by
  show fs.lookup f = _
  have : ∀ (k : Nat) (fs : List (Str × O)), fs[k]? = some (f, y) → ((fs.map (·.1)).take k).contains f = false → fs.lookup f = some y := by
    intro k
    induction k with
    | zero =>
      intro fs h _
      cases fs with
      | nil => cases h
      | cons p fs => cases h; rw [List.lookup_cons, beq_self_eq_true]
    | succ k ih =>
      intro fs h h2
      cases fs with
      | nil => cases h
      | cons p fs =>
        obtain ⟨g, z⟩ := p
        rw [List.map_cons, List.take_succ_cons, List.contains_cons, Bool.or_eq_false_iff] at h2
        rw [List.lookup_cons, h2.1]
        exact ih fs h h2.2
  rw [this k fs hv (by rw [hn]; exact h2)]
theorem look_no {β : Type} {f : Str} : ∀ (fs : List (Str × β)), (fs.map (·.1)).contains f = false → (fs.lookup f).isNone = true
  | [], _ => rfl
  | (g, z) :: fs, h => by
    rw [List.map_cons, List.contains_cons, Bool.or_eq_false_iff] at h
    rw [List.lookup_cons, h.1]
    exact look_no fs h.2
theorem ins_no {fs : List (Str × D)} {c : Nat} {m : Str} (names : List Str) (hn : fs.map (·.1) = names) (h : names.contains m = false) : insOf c m (.sh (.ins c fs)) = true := by
  show (decide (c = c) && (fs.lookup m).isNone) = true
  rw [decide_eq_true rfl, Bool.true_and, look_no fs (by rw [hn]; exact h)]
theorem insO_no {fs : List (Str × O)} {c : Nat} {m : Str} (names : List Str) (hn : fs.map (·.1) = names) (h : names.contains m = false) : insOf c m (.ins c fs) = true := by
  show (decide (c = c) && (fs.lookup m).isNone) = true
  rw [decide_eq_true rfl, Bool.true_and, look_no fs (by rw [hn]; exact h)]
theorem putFG_new {v : α} {f : Str} : ∀ (fs : List (Str × α)), (fs.map (·.1)).contains f = false → putFG f v fs = fs ++ [(f, v)]
  | [], _ => rfl
  | (g, z) :: fs, h => by
    rw [List.map_cons, List.contains_cons, Bool.or_eq_false_iff] at h
    unfold putFG
    rw [if_neg (fun e => by rw [e, beq_self_eq_true] at h; cases h.1), putFG_new fs h.2]; rfl
end
section
variable {α ρ κ σ : Type} {F : ρ → O → En → Prop} {L : κ → En → Prop} {B : σ → En → Prop}
/-- self.f = v, a new attribute -/
theorem SR_fldp {cs : List Nat} {i c : Nat} {f : Str} {g : En → RE} {rest : En → RS} {env : En} {v : α} {e : α → O} {E : α → En} {fs : List (Str × O)} {K : TR ρ κ σ} (names : List Str) (h : EX (g env) (.ok v) e E) (hs : gt (E v) i = some (.ins c fs)) (hc : cs.contains c = true) (hn : fs.map (·.1) = names) (hl : names.length < 1000) (hf : names.contains f = false)
    (k : SR (rest ((E v).set i (some (.ins c (fs ++ [(f, e v)]))))) K F L B) : SR (sCons (sFldS cs i f g) rest env) K F L B := by
  unfold sCons sFldS
  rw [show g env = .ok (e v, E v) from h]
  dsimp only
  have h1 : insG (E v) i = some (c, fs) := by unfold insG; rw [hs]
  rw [h1]
  dsimp only
  rw [if_pos (by rw [hc, Bool.true_and]; exact decide_eq_true (by rw [← hn, List.length_map] at hl; exact hl)), putFG_new fs (by rw [hn]; exact hf)]
  exact k
theorem SR_fld {cs : List Nat} {i c : Nat} {f : Str} {g : En → RE} {rest : En → RS} {env : En} {t : M α} {e : α → O} {E : α → En} {fs : α → List (Str × O)} {K : α → TR ρ κ σ} (names : List Str) (h : EX (g env) t e E) (hs : ∀ v, gt (E v) i = some (.ins c (fs v))) (hc : cs.contains c = true) (hn : ∀ v, (fs v).map (·.1) = names) (hl : names.length < 1000) (hf : names.contains f = false)
    (k : ∀ v, SR (rest ((E v).set i (some (.ins c (fs v ++ [(f, e v)]))))) (K v) F L B) : SR (sCons (sFldS cs i f g) rest env) (thn t K) F L B := by
  cases t with
  | ok v => exact SR_fldp names h (hs v) hc (hn v) hl hf (k v)
  | exc c u =>
    obtain ⟨e1, h⟩ := h
    unfold sCons sFldS
    rw [h]; exact ⟨e1, rfl⟩
  | stk => trivial
end
section
variable {α ρ : Type}
theorem EX_make {n c : Nat} {T : List O → RC} {h : En → R En (List O × En)} {env : En} {a : α} {e : α → List O} {E : α → En} {t : M ρ} {ev : ρ → O} {ef : ρ → List O} {eo : ρ → O} (hh : EX (h env) (.ok a) e E) (hT : RF n (T (.ins c [] :: e a)) t ev ef) (hf : ∀ v, ef v = [eo v]) : EX (eMake c T h env) t eo (fun _ => E a) := by
  unfold eMake
  rw [show h env = .ok (e a, E a) from hh, bind_ok]
  dsimp only
  cases t with
  | ok v =>
    rw [show T (.ins c [] :: e a) = .ok (ev v) (ef v) from hT, hf]; exact rfl
  | exc c u =>
    obtain ⟨fin, h1, _⟩ := hT
    rw [h1]; exact ⟨_, rfl⟩
  | stk => trivial
end
end FD.Ty
namespace FD.Ty
open PySem L2 FD
section
variable {α β γ δ ρ κ σ τ : Type}
theorem EX_fin {o : Option O} {env : En} {t : M α} {e : α → O} (h : EG (ofO o) t e) (f : α → γ) (e' : γ → O) (E' : γ → En) (he : ∀ v, e v = e' (f v)) (hE : ∀ v, env = E' (f v)) : EX (finO o env) (t.bind fun v => .ok (f v)) e' E' := EX.co f e' E' (EX_ofM h) he hE
theorem EX_finp {o : Option O} {env : En} {v : α} {e : α → O} (h : EG (ofO o) (.ok v) e) (w : γ) (e' : γ → O) (E' : γ → En) (he : e v = e' w) (hE : env = E' w) : EX (finO o env) (.ok w) e' E' := EX_fin h.unit (fun _ => w) e' E' (fun _ => he) (fun _ => hE)
theorem EX_op2 {go : O → O → Option O} {f g : En → RE} {env : En} {t : M α} {e : α → O} {E : α → En} (h : EX ((f env).bind fun p => (g p.2).bind fun q => finO (go p.1 q.1) q.2) t e E) : EX (eOp2 go f g env) t e E := h
theorem EX_op2v {go : O → O → Option O} {i : Nat} {g : En → RE} {env : En} {x0 : O} {t : M α} {e : α → O} {E : α → En} {x : α → O} {k : α → M γ} {e' : γ → O} {E' : γ → En} (h0 : gt env i = some x0) (h : EX (g env) t e E) (hx : ∀ q, gt (E q) i = some (x q))
    (hk : ∀ q, EX (finO (go (x q) (e q)) (E q)) (k q) e' E') : EX (eOp2v go i g env) (t.bind k) e' E' := by
  unfold eOp2v
  rw [h0]
  dsimp only
  refine h.bind fun q => ?_
  dsimp only
  rw [hx, Option.bind_some]
  exact hk q
theorem EX_e1 {go : List O → Option O} {f : En → RE} {env : En} {t : M α} {e : α → O} {E : α → En} (h : EX ((f env).bind fun p => finO (go [p.1]) p.2) t e E) : EX (e1 go f env) t e E := h
/-- a slice of what an effect made -/
theorem EX_sl {f : En → RE} {l h : En → R Unit (Option Int)} {env : En} {t : M α} {e : α → O} {E : α → En} {a b : α → Option Int} {k : α → M γ} {e' : γ → O} {E' : γ → En} (hf : EX (f env) t e E) (ha : ∀ v, l (E v) = .ok (a v)) (hb : ∀ v, h (E v) = .ok (b v))
    (hk : ∀ v, EX (finO (oSl (e v) (a v) (b v)) (E v)) (k v) e' E') : EX (eSl f l h env) (t.bind k) e' E' := by
  unfold eSl
  refine hf.bind fun v => ?_
  dsimp only
  rw [ha, hb]
  exact hk v
theorem EX_slLo {f : En → RP} {l : En → RE} {env : En} {v : α} {d : α → D} {t : M γ} {e : γ → O} {E : γ → En} {i : γ → Int} {k : γ → M δ} {e' : δ → O} {E' : δ → En} (hf : EG (f env) (.ok v) (sh d)) (hl : EX (l env) t e E) (hi : ∀ q, e q = sh dI (i q))
    (hk : ∀ q, EX (finO (oSl (sh d v) (some (i q)) none) (E q)) (k q) e' E') : EX (eSlLo f l env) (t.bind k) e' E' := by
  unfold eSlLo
  rw [show f env = .ok (sh d v) from hf]
  dsimp only [sh]
  refine hl.bind fun q => ?_
  dsimp only
  rw [hi, show asI (sh dI (i q)) = some (i q) from rfl, Option.bind_some]
  exact hk q
theorem EX_iE {f : En → RE} {env : En} {t : M α} {e : α → O} {E : α → En} {ds : α → List D} (h : EX (f env) t e E) (hi : ∀ v, itD (e v) = some (ds v)) : EX (iE f env) t ds E := by
  unfold iE
  cases t with
  | ok v =>
    rw [show f env = .ok (e v, E v) from h, bind_ok]
    dsimp only
    rw [hi]; exact rfl
  | exc c u => obtain ⟨e1, h⟩ := h; rw [h]; exact ⟨e1, rfl⟩
  | stk => trivial
theorem EX_callm {n : Nat} {T : List O → RC} {bk : List (Nat × Nat)} {h : En → R En (List O × En)} {env : En} {s : M α} {e : α → List O} {E : α → En} {t : α → M ρ} {ev : ρ → O} {ef : ρ → List O} {E' : ρ → En} (hh : EX (h env) s e E) (hT : ∀ a, RF n (T (e a)) (t a) ev ef)
    (hp : ∀ a v, putB bk (ef v) (E a) = some (E' v)) (hx : ∀ a (fin : List O), fin.length = n → ∃ e, putB bk fin (E a) = some e) : EX (eCall T bk h env) (s.bind t) ev E' := by
  cases s with
  | ok a => exact EX_call hh (hT a) (hp a) (hx a)
  | exc c u =>
    obtain ⟨e1, h⟩ := hh
    unfold eCall
    rw [h]; exact ⟨e1, rfl⟩
  | stk => trivial
def lc0 (f : α → M β) : List α → M (List β)
  | [] => .ok []
  | a :: l => match f a with
    | .ok x => match lc0 f l with
      | .ok r => .ok (x :: r)
      | _ => .stk
    | _ => .stk
theorem lc0_ok {vs : List Nat} {tgt : D → En → Option En} {elt : En → RE} {d : α → D} {f : α → M β} {e : β → O} {Es : En} (hb : ∀ a, ∃ e1 E, tgt (d a) Es = some e1 ∧ EX (elt e1) (f a) e E ∧ ∀ v, wipeE (E v) vs = Es) :
    ∀ (l : List α) (acc : List O) (r : List β), lc0 f l = .ok r → lcE vs tgt uYes elt (l.map d) acc Es = .ok (acc ++ r.map e, Es)
  | [], acc, r, h => by
    unfold lc0 at h
    cases h
    show R.ok (acc, Es) = R.ok (acc ++ [], Es)
    rw [List.append_nil]
  | a :: l, acc, r, h => by
    obtain ⟨e1, E, h1, h2, h3⟩ := hb a
    unfold lc0 at h
    rw [List.map_cons]
    unfold lcE
    rw [h1]
    dsimp only
    show (match elt e1 with
      | .ok (x, e3) => lcE vs tgt uYes elt (l.map d) (acc ++ [x]) (wipeE e3 vs)
      | _ => .stk) = _
    cases hf : f a with
    | ok x =>
      rw [hf] at h2 h
      dsimp only at h
      rw [show elt e1 = .ok (e x, E x) from h2]
      dsimp only
      rw [h3]
      cases hl : lc0 f l with
      | ok r1 =>
        rw [hl] at h
        dsimp only at h
        cases h
        rw [lc0_ok hb l (acc ++ [e x]) r1 hl, List.append_assoc]; rfl
      | exc c u => rw [hl] at h; cases h
      | stk => rw [hl] at h; cases h
    | exc c u => rw [hf] at h; cases h
    | stk => rw [hf] at h; cases h
theorem lc0_noexc (f : α → M β) (c : Nat) (u : Unit) : ∀ l : List α, lc0 f l ≠ .exc c u
  | [], h => by cases h
  | a :: l, h => by
    unfold lc0 at h
    split at h
    · split at h
      · cases h
      · cases h
    · cases h
theorem EX_lc0 {vs : List Nat} {it : En → R Unit (List D)} {tgt : D → En → Option En} {elt : En → RE} {env : En} {t : M (List α)} {d : α → D} {f : α → M β} {e : β → O} {Es Ef : En} (hi : EG (it env) t (List.map d)) (h0 : wipeE env vs = Es)
    (hb : ∀ a, ∃ e1 E, tgt (d a) Es = some e1 ∧ EX (elt e1) (f a) e E ∧ ∀ v, wipeE (E v) vs = Es) (hf : restE env Es vs = Ef) :
    EX (eLc vs (iJ it) tgt uYes elt env) (t.bind fun l => grd (szOk l.length) (lc0 f l) .stk) (oL e) (fun _ => Ef) := by
  unfold eLc iJ
  cases t with
  | stk => trivial
  | exc c u => rw [show it env = .exc c () from hi]; exact ⟨env, rfl⟩
  | ok l =>
    rw [show it env = .ok (l.map d) from hi]
    dsimp only
    rw [bind_ok]
    dsimp only
    rw [List.length_map, h0]
    show EX _ (grd (szOk l.length) (lc0 f l) .stk) _ _
    cases szOk l.length with
    | false => trivial
    | true =>
      rw [if_pos rfl]
      show EX _ (lc0 f l) _ _
      cases hl : lc0 f l with
      | ok r =>
        have := lc0_ok hb l [] r hl
        rw [List.nil_append] at this
        rw [this]
        show R.ok _ = R.ok _
        dsimp only
        rw [hf]
      | exc c u => exact absurd hl (lc0_noexc f c u l)
      | stk => trivial
theorem EX_lc0p {vs : List Nat} {it : En → R Unit (List D)} {tgt : D → En → Option En} {elt : En → RE} {env : En} {l : List α} {d : α → D} {f : α → M β} {e : β → O} {Es Ef : En} (hi : EG (it env) (.ok l) (List.map d)) (h0 : wipeE env vs = Es)
    (hb : ∀ a, ∃ e1 E, tgt (d a) Es = some e1 ∧ EX (elt e1) (f a) e E ∧ ∀ v, wipeE (E v) vs = Es) (hf : restE env Es vs = Ef) :
    EX (eLc vs (iJ it) tgt uYes elt env) (grd (szOk l.length) (lc0 f l) .stk) (oL e) (fun _ => Ef) := EX_lc0 hi h0 hb hf
theorem EX_lcm {vs : List Nat} {it : En → R Unit (List D)} {tgt : D → En → Option En} {elt : En → RE} {env : En} {t : M (List α)} {d : α → D} {f : α → σ → M (β × σ)} {e : β → O} {Es Ef : σ → En} {s0 : σ} (hi : EG (it env) t (List.map d)) (h0 : wipeE env vs = Es s0)
    (hb : ∀ a s, ∃ e1 E, tgt (d a) (Es s) = some e1 ∧ EX (elt e1) (f a s) (fun v => e v.1) E ∧ ∀ v, wipeE (E v) vs = Es v.2) (hf : ∀ s, restE env (Es s) vs = Ef s) :
    EX (eLc vs (iJ it) tgt uYes elt env) (t.bind fun l => grd (szOk l.length) (lcX f l s0) .stk) (fun v => oL e v.1) (fun v => Ef v.2) := by
  cases t with
  | ok l => exact EX_lc hi h0 hb hf
  | exc c u =>
    unfold eLc iJ
    rw [show it env = .exc c () from hi]; exact ⟨env, rfl⟩
  | stk => trivial
theorem EX_iR1 {f : En → RE} {env : En} {t : M α} {e : α → O} {E : α → En} {j : α → Int} (h : EX (f env) t e E) (hi : ∀ v, e v = sh dI (j v)) : EX (iRange1 f env) (t.bind fun v => grd (okI (j v)) (.ok v) .stk) (fun v => (rngT 0 (j v)).map dI) E := by
  unfold iRange1
  cases t with
  | ok v =>
    rw [show f env = .ok (e v, E v) from h, bind_ok, hi]
    dsimp only
    show EX (if okI (j v) = true then (R.ok (rngD 0 (j v), E v) : R En (List D × En)) else .stk) (grd (okI (j v)) (.ok v) .stk) _ _
    cases okI (j v) with
    | true => show R.ok _ = R.ok _; rw [rngD_map]
    | false => trivial
  | exc c u => obtain ⟨e1, h⟩ := h; rw [h]; exact ⟨e1, rfl⟩
  | stk => trivial
theorem EX_appx {i : Nat} {f : En → RE} {env : En} {xs0 : List O} {s : M α} {ev : α → O} {E : α → En} {x : α → β} {l : α → List β} {e : β → O} (h0 : lstG env i = some xs0) (h : EX (f env) s ev E) (hx : ∀ v, ev v = e (x v)) (hl : ∀ v, gt (E v) i = some (oL e (l v)))
    (w : α → List β → γ) (E' : γ → En) (hE : ∀ v l', (E v).set i (some (oL e l')) = E' (w v l')) : EX (eApp i f env) (s.bind fun v => (appM (l v) (x v)).bind fun l' => .ok (w v l')) (fun _ => .sh .non) E' := by
  cases s with
  | stk => trivial
  | exc c u =>
    obtain ⟨e1, h⟩ := h
    unfold eApp
    rw [h0, h]; exact ⟨e1, rfl⟩
  | ok v => exact EX.co (w v) (fun _ => .sh .non) E' (EX_app h0 h (hx v) (hl v)) (fun _ => rfl) (hE v)
theorem EX_appm {i : Nat} {f : En → RE} {env : En} {xs0 : List O} {s : M α} {ev : α → O} {x : α → β} {l : List β} {e : β → O} (h0 : lstG env i = some xs0) (h : EX (f env) s ev (fun _ => env)) (hx : ∀ v, ev v = e (x v)) (hl : gt env i = some (oL e l)) :
    EX (eApp i f env) (s.bind fun v => appM l (x v)) (fun _ => .sh .non) (fun l' => env.set i (some (oL e l'))) := by
  cases s with
  | stk => trivial
  | exc c u =>
    obtain ⟨e1, h⟩ := h
    unfold eApp
    rw [h0, h]; exact ⟨e1, rfl⟩
  | ok v => exact EX_app h0 h (hx v) hl
theorem EX_remm {i : Nat} {f : En → RP} {env : En} {t : M Int} {l : List Int} (h : EG (f env) t (sh dI)) (hl : gt env i = some (oL (sh dI) l)) : EX (eRem i f env) (t.bind fun x => remM l x) (fun _ => .sh .non) (fun l' => env.set i (some (oL (sh dI) l'))) := by
  cases t with
  | stk => trivial
  | exc c u =>
    unfold eRem
    have h1 : intsO (l.map (sh dI)) = some l := intsO_ints l
    rw [lstG_oL hl, Option.bind_some, h1]
    dsimp only
    rw [show f env = .exc c () from h]; exact ⟨env, rfl⟩
  | ok x => exact EX_rem h hl
theorem EX_popm {i : Nat} {f : En → RP} {env : En} {t : M Int} {l : List α} {e : α → O} (h : EG (f env) t (sh dI)) (hl : gt env i = some (oL e l)) : EX (ePop i f env) (t.bind fun j => popM l j) (fun p => e p.1) (fun p => env.set i (some (oL e p.2))) := by
  cases t with
  | stk => trivial
  | exc c u =>
    unfold ePop
    rw [lstG_oL hl]
    dsimp only
    rw [show f env = .exc c () from h]; exact ⟨env, rfl⟩
  | ok j => exact EX_pop h hl
theorem EX.valp {r : R En (β × En)} {v : α} {e : α → β} {E : α → En} (h : EX r (.ok v) e E) : EX r (.ok v) e E := h
theorem co_tup {m : Bool} {c : α → β} {d : α → D} {d' : β → D} (h : ∀ a, d a = d' (c a)) (l : List α) : dT m d l = dT m d' (l.map c) := by
  show D.tup m (l.map d) = D.tup m ((l.map c).map d')
  rw [List.map_map]
  congr 1
  exact List.map_congr_left fun a _ => h a
theorem co_lst {c : α → β} {d : α → D} {d' : β → D} (h : ∀ a, d a = d' (c a)) (l : List α) : dL d l = dL d' (l.map c) := by
  show D.lst (l.map d) = D.lst ((l.map c).map d')
  rw [List.map_map]
  congr 1
  exact List.map_congr_left fun a _ => h a
end
end FD.Ty


set_option Elab.async false
set_option linter.all false
set_option maxRecDepth 100000
/-! F34: how typed functions are reasoned about. -/
namespace FD.Ty
open PySem L2 FD
section
variable {α β γ δ ρ κ σ τ : Type}
/-- t ends well, with what P holds of -/
def Ok (t : M α) (P : α → Prop) : Prop := ∃ v, t = .ok v ∧ P v
theorem Ok.ok {v : α} {P : α → Prop} (h : P v) : Ok (.ok v) P := ⟨v, rfl, h⟩
theorem Ok.of {t : M α} {v : α} {P : α → Prop} (h : t = .ok v) (h2 : P v) : Ok t P := ⟨v, h, h2⟩
theorem Ok.eq {t : M α} {v : α} (h : Ok t fun x => x = v) : t = .ok v := by obtain ⟨x, h1, h2⟩ := h; rw [h1, h2]
theorem Ok.imp {t : M α} {P Q : α → Prop} (h : Ok t P) (hi : ∀ v, P v → Q v) : Ok t Q := by obtain ⟨x, h1, h2⟩ := h; exact ⟨x, h1, hi x h2⟩
theorem Ok.bind {t : M α} {P : α → Prop} {k : α → M β} {Q : β → Prop} (h : Ok t P) (h2 : ∀ v, P v → Ok (k v) Q) : Ok (t.bind k) Q := by
  obtain ⟨v, rfl, h⟩ := h; exact h2 v h
theorem Ok.bindeq {t : M α} {v : α} {k : α → M β} {Q : β → Prop} (h : t = .ok v) (h2 : Ok (k v) Q) : Ok (t.bind k) Q := by rw [h]; exact h2
theorem Ok.g {b : Bool} {x y : M α} {Q : α → Prop} (h : b = true) (h2 : Ok x Q) : Ok (grd b x y) Q := by rw [h]; exact h2
/-- how a statement ends: on, with a value, by break, by continue -/
def Tr (t : TR ρ κ σ) (N : σ → Prop) (V : ρ → Prop) (Kb Kc : κ → Prop) : Prop := match t with
  | .nx s => N s
  | .rt v => V v
  | .bk s => Kb s
  | .ct s => Kc s
  | .exc _ => False
  | .stk => False
variable {N : σ → Prop} {V : ρ → Prop} {Kb Kc : κ → Prop}
theorem Tr.imp {t : TR ρ κ σ} {N' : σ → Prop} {V' : ρ → Prop} {Kb' Kc' : κ → Prop} (h : Tr t N V Kb Kc) (h1 : ∀ s, N s → N' s) (h2 : ∀ s, V s → V' s) (h3 : ∀ s, Kb s → Kb' s) (h4 : ∀ s, Kc s → Kc' s) : Tr t N' V' Kb' Kc' := by
  cases t with
  | nx s => exact h1 s h
  | rt s => exact h2 s h
  | bk s => exact h3 s h
  | ct s => exact h4 s h
  | exc c => exact h
  | stk => exact h
theorem Tr.t {t : M α} {P : α → Prop} {k : α → TR ρ κ σ} (h : Ok t P) (h2 : ∀ v, P v → Tr (k v) N V Kb Kc) : Tr (thn t k) N V Kb Kc := by
  obtain ⟨v, rfl, h⟩ := h; exact h2 v h
theorem Tr.te {t : M α} {v : α} {k : α → TR ρ κ σ} (h : t = .ok v) (h2 : Tr (k v) N V Kb Kc) : Tr (thn t k) N V Kb Kc := by rw [h]; exact h2
theorem Tr.s {t : TR ρ κ τ} {N' : τ → Prop} {k : τ → TR ρ κ σ} (h : Tr t N' V Kb Kc) (h2 : ∀ s, N' s → Tr (k s) N V Kb Kc) : Tr (sq t k) N V Kb Kc := by
  cases t with
  | nx s => exact h2 s h
  | rt s => exact h
  | bk s => exact h
  | ct s => exact h
  | exc c => exact h
  | stk => exact h
theorem Tr.ite {b : Bool} {x y : TR ρ κ σ} (h1 : b = true → Tr x N V Kb Kc) (h2 : b = false → Tr y N V Kb Kc) : Tr (if b then x else y) N V Kb Kc := by
  cases b with
  | true => exact h1 rfl
  | false => exact h2 rfl
/-- a for: done, still to come -/
theorem Tr.for {f : α → σ → TR ρ σ σ} (Inv : List α → List α → σ → Prop) (hs : ∀ pre a rest s, Inv pre (a :: rest) s → Tr (f a s) (Inv (pre ++ [a]) rest) V N (Inv (pre ++ [a]) rest)) (he : ∀ pre s, Inv pre [] s → N s) : ∀ (l pre : List α) (s : σ), Inv pre l s → Tr (forT f l s : TR ρ κ σ) N V Kb Kc
  | [], pre, s, h => he pre s h
  | a :: l, pre, s, h => by
    have h1 := hs pre a l s h
    unfold forT
    cases q : f a s with
    | nx s => rw [q] at h1; exact Tr.for Inv hs he l _ s h1
    | ct s => rw [q] at h1; exact Tr.for Inv hs he l _ s h1
    | bk s => rw [q] at h1; exact h1
    | rt v => rw [q] at h1; exact h1
    | exc c => rw [q] at h1; exact h1
    | stk => rw [q] at h1; exact h1
/-- a for that carries nothing: every turn goes through or the value holds -/
theorem Tr.forall {f : α → σ → TR ρ σ σ} {l : List α} {s : σ} (P : σ → Prop) (h0 : P s) (hs : ∀ a, a ∈ l → ∀ s, P s → Tr (f a s) P V N P) (he : ∀ s, P s → N s) : Tr (forT f l s : TR ρ κ σ) N V Kb Kc :=
  Tr.for (fun _ rest s => P s ∧ ∀ a ∈ rest, a ∈ l) (fun pre a rest s ⟨h1, h2⟩ => (hs a (h2 a List.mem_cons_self) s h1).imp (fun s h => ⟨h, fun b hb => h2 b (List.mem_cons_of_mem _ hb)⟩) (fun _ h => h) (fun _ h => h) (fun s h => ⟨h, fun b hb => h2 b (List.mem_cons_of_mem _ hb)⟩)) (fun _ s h => he s h.1) l [] s ⟨h0, fun _ h => h⟩
theorem Tr.wh {c : σ → M Bool} {f : σ → TR ρ σ σ} (Inv : σ → Prop) (μ : σ → Nat) (hc : ∀ s, Inv s → Ok (c s) fun b => (b = true → Tr (f s) (fun s' => Inv s' ∧ μ s' < μ s) V N (fun s' => Inv s' ∧ μ s' < μ s)) ∧ (b = false → N s)) : ∀ (n : Nat) (s : σ), Inv s → μ s < n → Tr (whT c f n s : TR ρ κ σ) N V Kb Kc
  | 0, s, _, h => absurd h (Nat.not_lt_zero _)
  | n + 1, s, hi, h => by
    obtain ⟨b, h1, h2, h3⟩ := hc s hi
    unfold whT
    rw [h1]
    cases b with
    | false => exact h3 rfl
    | true =>
      have h4 := h2 rfl
      dsimp only
      cases q : f s with
      | nx s' => rw [q] at h4; exact Tr.wh Inv μ hc n s' h4.1 (Nat.lt_of_lt_of_le h4.2 (Nat.le_of_lt_succ h))
      | ct s' => rw [q] at h4; exact Tr.wh Inv μ hc n s' h4.1 (Nat.lt_of_lt_of_le h4.2 (Nat.le_of_lt_succ h))
      | bk s' => rw [q] at h4; exact h4
      | rt v => rw [q] at h4; exact h4
      | exc c => rw [q] at h4; exact h4
      | stk => rw [q] at h4; exact h4
theorem Ok.fin {t : TR ρ κ ρ} {P : ρ → Prop} (h : Tr t P P (fun _ => False) (fun _ => False)) : Ok (Ty.finT t) P := by
  cases t with
  | nx s => exact ⟨s, rfl, h⟩
  | rt s => exact ⟨s, rfl, h⟩
  | bk s => exact h.elim
  | ct s => exact h.elim
  | exc c => exact h.elim
  | stk => exact h.elim
theorem Ok.finx {t : TR ρ κ ρ} {P : ρ → Prop} (h : Tr t P P (fun _ => False) (fun _ => False)) : Ok (Ty.finX t) P := by
  cases t with
  | nx s => exact ⟨s, rfl, h⟩
  | rt s => exact ⟨s, rfl, h⟩
  | bk s => exact h.elim
  | ct s => exact h.elim
  | exc c => exact h.elim
  | stk => exact h.elim
/-! ### sizes -/
theorem sz {n : Nat} (h : n ≤ 1000000) : szOk n = true := szOk_le (by omega)
theorem okn {i : Int} (h1 : -1000000000 ≤ i) (h2 : i ≤ 1000000000) : okI i = true := okI_of (by omega) (by omega)
theorem okj {i : Int} (h1 : 0 < i) (h2 : i ≤ 1000000000) : okJ i = true := okJ_of h1 (by omega)
/-! ### what the operations do -/
theorem atM_nat {l : List α} {n : Nat} (h : n < l.length) : atM l (n : Int) = .ok l[n] := by
  unfold atM
  rw [atI_nat, List.getElem?_eq_getElem h]; rfl
theorem atM_some {l : List α} {n : Nat} {a : α} (h : l[n]? = some a) : atM l (n : Int) = .ok a := by
  unfold atM
  rw [atI_nat, h]; rfl
theorem atM_int {l : List α} {i : Int} (h0 : 0 ≤ i) (h : i < l.length) : atM l i = .ok (l[i.toNat]'(by omega)) := by
  obtain ⟨n, rfl⟩ := Int.eq_ofNat_of_zero_le h0
  exact atM_nat (by omega)
theorem atM_zero {a : α} {l : List α} : atM (a :: l) 0 = .ok a := atM_some (n := 0) rfl
theorem atM_last {l : List α} (h : l ≠ []) : atM l (-1) = .ok (l.getLast h) := by
  have hp := List.length_pos_iff.mpr h
  unfold atM
  have h1 : ixN l.length (-1) = some (l.length - 1) := by
    unfold ixN
    rw [if_neg (by omega), if_pos (by omega)]
    congr 1
    omega
  unfold atI
  rw [h1, Option.bind_some, List.getLast_eq_getElem, List.getElem?_eq_getElem (by omega)]; rfl
theorem setM_nat {l : List α} {n : Nat} {a : α} (h : n < l.length) : setM l (n : Int) a = .ok (l.set n a) := by
  unfold setM
  rw [show ixN l.length (n : Int) = some n from by unfold ixN; simp [h]]
theorem appM_ok {l : List α} {a : α} (h : l.length ≤ 100000) : appM l a = .ok (l ++ [a]) := by unfold appM; rw [sz (by omega)]; rfl
theorem extM_ok {l r : List α} (h : l.length + r.length ≤ 1000000) : extM l r = .ok (l ++ r) := by unfold extM; rw [sz h]; rfl
theorem popM_zero {a : α} {l : List α} : popM (a :: l) 0 = .ok (a, l) := by
  unfold popM
  rw [if_pos (okn (by omega) (by omega))]
  have h1 : seqIndex? 0 (a :: l).length = some 0 := by
    unfold seqIndex?
    simp
  rw [h1]; rfl
theorem remM_ok {l : List Int} {x : Int} (h : x ∈ l) : remM l x = .ok (l.erase x) := by
  unfold remM
  rw [List.contains_iff_mem.mpr h]; rfl
theorem rngT_nat (n : Nat) : rngT 0 (n : Int) = (List.range n).map fun (i : Nat) => (i : Int) := by
  unfold rngT
  rw [show ((n : Int) - 0).toNat = n by omega]
  exact List.map_congr_left fun a _ => by omega
theorem rngM_nat {n : Nat} (h : n ≤ 1000000) : rngM 0 (n : Int) = .ok ((List.range n).map fun (i : Nat) => (i : Int)) := by
  unfold rngM okR
  rw [okn (by omega) (by omega), okn (by omega) (by omega), decide_eq_true (by rw [lim_eq, sizeLine_eq]; omega)]
  show R.ok (rngT 0 n) = _
  rw [rngT_nat]
theorem repM_ok {l : List α} {n : Nat} (h : l.length * n ≤ 1000000) (h2 : n ≤ 1000000) : repM l (n : Int) = .ok (List.replicate n l).flatten := by
  unfold repM
  rw [okn (by omega) (by omega), Bool.true_and, decide_eq_true (by rw [lim_eq, sizeLine_eq, Int.toNat_natCast]; omega), Int.toNat_natCast]; rfl
theorem repM_one {a : α} {n : Nat} (h2 : n ≤ 1000000) : repM [a] (n : Int) = .ok (List.replicate n a) := by
  rw [repM_ok (by simpa using h2) h2]
  congr 1
  induction n with
  | zero => rfl
  | succ n ih => rw [List.replicate_succ, List.flatten_cons, ih (by omega), List.replicate_succ]; rfl
theorem modM_ok {a b : Int} (h : 0 < b) : modM a b = .ok (a % b) := by unfold modM; rw [decide_eq_true h]; rfl
theorem divM_ok {a b : Int} (h : 0 < b) (h2 : b ≤ 1000000000) : divM a b = .ok (a / b) := by unfold divM; rw [okj h h2]; rfl
theorem lcM_ok {p : α → M Bool} {f : α → M β} {q : α → Bool} {g : α → β} : ∀ {l : List α}, (∀ a ∈ l, p a = .ok (q a) ∧ (q a = true → f a = .ok (g a))) → lcM p f l = .ok ((l.filter q).map g)
  | [], _ => rfl
  | a :: l, h => by
    obtain ⟨h1, h2⟩ := h a List.mem_cons_self
    have ih := lcM_ok fun b hb => h b (List.mem_cons_of_mem _ hb)
    unfold lcM
    rw [h1]
    cases hq : q a with
    | true =>
      dsimp only
      rw [h2 hq, ih]
      dsimp only
      rw [List.filter_cons_of_pos hq]; rfl
    | false =>
      dsimp only
      rw [ih, List.filter_cons_of_neg (by rw [hq]; exact Bool.false_ne_true)]
theorem lcM_map {f : α → M β} {g : α → β} {l : List α} (h : ∀ a ∈ l, f a = .ok (g a)) : lcM (fun _ => .ok true) f l = .ok (l.map g) := by
  rw [lcM_ok (q := fun _ => true) fun a ha => ⟨rfl, fun _ => h a ha⟩, (List.filter_eq_self.mpr fun _ _ => rfl : l.filter (fun _ => true) = l)]
theorem lcM_filter {p : α → M Bool} {q : α → Bool} {l : List α} (h : ∀ a ∈ l, p a = .ok (q a)) : lcM p (fun a => .ok a) l = .ok (l.filter q) := by
  rw [lcM_ok (q := q) (g := fun a => a) fun a ha => ⟨h a ha, fun _ => rfl⟩, List.map_id']
/-- a list made, something known of its items -/
theorem lcM_Ok {f : α → M β} {P : α → β → Prop} : ∀ {l : List α}, (∀ a ∈ l, Ok (f a) (P a)) → Ok (lcM (fun _ => .ok true) f l) fun r => Paired P l r
  | [], _ => .ok .nil
  | a :: l, h => by
    obtain ⟨x, h1, h2⟩ := h a List.mem_cons_self
    obtain ⟨r, h3, h4⟩ := lcM_Ok fun b hb => h b (List.mem_cons_of_mem _ hb)
    unfold lcM
    dsimp only
    rw [h1, h3]
    exact .ok (.cons h2 h4)
theorem lc0_eq {f : α → M β} {g : α → β} : ∀ {l : List α}, (∀ a ∈ l, f a = .ok (g a)) → lc0 f l = .ok (l.map g)
  | [], _ => rfl
  | a :: l, h => by
    unfold lc0
    rw [h a List.mem_cons_self, lc0_eq fun b hb => h b (List.mem_cons_of_mem _ hb)]; rfl
/-- the same with a state that is handed on -/
theorem lcX_Ok {f : α → σ → M (β × σ)} {P : β → Prop} {I : σ → Prop} : ∀ {l : List α} {s : σ}, I s → (∀ a ∈ l, ∀ s, I s → Ok (f a s) fun v => P v.1 ∧ I v.2) → Ok (lcX f l s) fun v => (v.1.length = l.length ∧ ∀ x ∈ v.1, P x) ∧ I v.2
  | [], s, h0, _ => .ok ⟨⟨rfl, fun x h => by cases h⟩, h0⟩
  | a :: l, s, h0, h => by
    obtain ⟨⟨x, s1⟩, h1, h2, h3⟩ := h a List.mem_cons_self s h0
    obtain ⟨⟨r, s2⟩, h4, ⟨h5, h6⟩, h7⟩ := lcX_Ok (l := l) h3 fun b hb => h b (List.mem_cons_of_mem _ hb)
    unfold lcX
    rw [h1]
    dsimp only
    rw [h4]
    refine .ok ⟨⟨by rw [List.length_cons, List.length_cons]; exact congrArg (· + 1) h5, fun y hy => ?_⟩, h7⟩
    rcases List.mem_cons.mp hy with rfl | hy
    · exact h2
    · exact h6 y hy
theorem idxM_of [DecidableEq α] {l : List α} {x : α} {j : Nat} (h : l.findIdx? (fun z => decide (z = x)) = some j) : idxM l x = .ok (j : Int) := by unfold idxM; rw [h]
theorem fuelW_gt {n : Nat} (h : n < 1000) : n < fuelW := Nat.lt_of_lt_of_le h fuelW_ge
end
end FD.Ty


set_option Elab.async false
set_option linter.all false
set_option maxRecDepth 100000
set_option maxHeartbeats 4000000
/-! the certificates of K13, printed by gen.py -/
namespace FD.K13
open PySem L2
def top (i : Nat) : Stmt := PySem.Challenge.pw_pairmart_k13_taking_turns.main.body.getD i (.Pass ⟨0, 0, 0, 0⟩)
structure Ad where
  f__law_dice : Addr
  d__law_dice : FuncData
  f__law_rounds : Addr
  d__law_rounds : FuncData
  f_in_turn : Addr
  d_in_turn : FuncData
  f_all_ways : Addr
  d_all_ways : FuncData
  f__law_roll : Addr
  d__law_roll : FuncData
  f__law_full : Addr
  d__law_full : FuncData
  f__law_list : Addr
  d__law_list : FuncData
  f_Wish___init__ : Addr
  d_Wish___init__ : FuncData
  f_Wish_rank : Addr
  d_Wish_rank : FuncData
  f_Wish_ahead_of : Addr
  d_Wish_ahead_of : FuncData
  f_improved : Addr
  d_improved : FuncData
  f_turn_for : Addr
  d_turn_for : FuncData
  f_law : Addr
  d_law : FuncData
abbrev s__law_dice : Stmt := top 9
abbrev s__law_rounds : Stmt := top 11
abbrev s_in_turn : Stmt := top 6
abbrev s_all_ways : Stmt := top 4
abbrev s__law_roll : Stmt := top 10
abbrev s__law_full : Stmt := top 13
abbrev s__law_list : Stmt := top 12
abbrev s_Wish___init__ : Stmt := inClass (top 2) 0
abbrev s_Wish_rank : Stmt := inClass (top 2) 2
abbrev s_Wish_ahead_of : Stmt := inClass (top 2) 4
abbrev s_improved : Stmt := top 5
abbrev s_turn_for : Stmt := top 7
abbrev s_law : Stmt := top 14
structure Txt (K : PySem.W.Frag) (mg : Str → Option Value) (W : Wd) (A : Ad) : Prop where
  b_abs : mg "abs" = none
  b_dict : mg "dict" = none
  b_enumerate : mg "enumerate" = none
  b_int : mg "int" = none
  b_len : mg "len" = none
  b_list : mg "list" = none
  b_range : mg "range" = none
  b_sorted : mg "sorted" = none
  b_tuple : mg "tuple" = none
  F__law_dice : Fun K "_law_dice" "_law_dice" s__law_dice A.f__law_dice A.d__law_dice
  B__law_dice : Binds K A.d__law_dice ["_law_cell"] []
  m__law_dice : mg "_law_dice" = some (.ref A.f__law_dice)
  F__law_rounds : Fun K "_law_rounds" "_law_rounds" s__law_rounds A.f__law_rounds A.d__law_rounds
  B__law_rounds : Binds K A.d__law_rounds ["_law_script", "_law_most_now"] []
  m__law_rounds : mg "_law_rounds" = some (.ref A.f__law_rounds)
  F_in_turn : Fun K "in_turn" "in_turn" s_in_turn A.f_in_turn A.d_in_turn
  B_in_turn : Binds K A.d_in_turn ["lists", "order"] []
  m_in_turn : mg "in_turn" = some (.ref A.f_in_turn)
  F_all_ways : Fun K "all_ways" "all_ways" s_all_ways A.f_all_ways A.d_all_ways
  B_all_ways : Binds K A.d_all_ways ["things"] []
  m_all_ways : mg "all_ways" = some (.ref A.f_all_ways)
  F__law_roll : Fun K "_law_roll" "_law_roll" s__law_roll A.f__law_roll A.d__law_roll
  B__law_roll : Binds K A.d__law_roll ["_law_dice_here", "_law_many"] []
  m__law_roll : mg "_law_roll" = some (.ref A.f__law_roll)
  F__law_full : Fun K "_law_full" "_law_full" s__law_full A.f__law_full A.d__law_full
  B__law_full : Binds K A.d__law_full ["_law_dice_here", "_law_many"] []
  m__law_full : mg "_law_full" = some (.ref A.f__law_full)
  F__law_list : Fun K "_law_list" "_law_list" s__law_list A.f__law_list A.d__law_list
  B__law_list : Binds K A.d__law_list ["_law_dice_here", "_law_many"] []
  m__law_list : mg "_law_list" = some (.ref A.f__law_list)
  F_Wish___init__ : Fun K "__init__" "Wish.__init__" s_Wish___init__ A.f_Wish___init__ A.d_Wish___init__
  B_Wish___init__ : Binds K A.d_Wish___init__ ["self", "order"] []
  F_Wish_rank : Fun K "rank" "Wish.rank" s_Wish_rank A.f_Wish_rank A.d_Wish_rank
  B_Wish_rank : Binds K A.d_Wish_rank ["self", "one"] []
  F_Wish_ahead_of : Fun K "ahead_of" "Wish.ahead_of" s_Wish_ahead_of A.f_Wish_ahead_of A.d_Wish_ahead_of
  B_Wish_ahead_of : Binds K A.d_Wish_ahead_of ["self", "one"] []
  F_improved : Fun K "improved" "improved" s_improved A.f_improved A.d_improved
  B_improved : Binds K A.d_improved ["lists", "got"] []
  m_improved : mg "improved" = some (.ref A.f_improved)
  F_turn_for : Fun K "turn_for" "turn_for" s_turn_for A.f_turn_for A.d_turn_for
  B_turn_for : Binds K A.d_turn_for ["lists", "got"] []
  m_turn_for : mg "turn_for" = some (.ref A.f_turn_for)
  F_law : Fun K "law" "law" s_law A.f_law A.d_law
  B_law : Binds K A.d_law ["_law_script"] []
  m_law : mg "law" = some (.ref A.f_law)
  C_Wish : Cls K (W.C.cls 0)
  m_Wish : mg "Wish" = some (.ref (W.C.cls 0))
  K_Wish : Mk K (W.C.cls 0) A.f_Wish___init__
  M_Wish_rank : Meth K (W.C.cls 0) "rank" A.f_Wish_rank
  M_Wish_ahead_of : Meth K (W.C.cls 0) "ahead_of" A.f_Wish_ahead_of
  kl : ∀ p vs, W.C.kl p vs → KL K p vs
  n_order : FldOk K W "order" [0]
  n_ranks : FldOk K W "ranks" [0]
section
variable {P : Program} {w : World} {K : PySem.W.Frag} {mg : Str → Option Value} {base : Heap} {W : Wd} {A : Ad}
/-! _law_dice: slots 0 _law_cell -/
noncomputable def g__law_dice : En → RS :=
    sCons (sIf (uT (bT (bChain oLt oLt (b2 oSub (bC (.int 0)) (bC (.int 10))) (bSh 0) (bC (.int 10))))) (sCons (sRet (pE (bLst (aCons (bN oAbs (aCons (bSh 0) (aNil))) (aCons (bC (.int 0)) (aCons (bC (.int 2)) (aNil))))))) <|
    sNil) (sNil)) <|
    sCons (sRet (eLst (nCons (pE (bSh 0)) (nCons (pE (bFrz (b2 oPlus (bC (.int 1)) (b2 oMod (bN oInt (aCons (bSh 0) (aNil))) (bC (.int 1009)))))) (nCons (pE (bN oInt (aCons (b2 oGe (bSh 0) (b2 oPow (bC (.int 10)) (bC (.int 18)))) (aNil)))) (nNil)))))) <|
    sNil
noncomputable def T__law_dice : List O → RC := fnT 1 1 [] g__law_dice
theorem sc__law_dice : FnScope ["_law_cell"] ["_law_cell"] (defScope s__law_dice) := ⟨rfl, rfl, rfl, by decide +kernel, rfl, by decide +kernel, by decide +kernel⟩
theorem ok__law_dice (T : Txt K mg W A) : FnOk P w K mg base (L2.CX P w) 1 A.f__law_dice A.d__law_dice ["_law_cell"] (spC W 1 [] T__law_dice) :=
  fn_ok T.F__law_dice sc__law_dice rfl rfl (by decide) (by decide) fun cdv Ar outer s H E hr => by
    have u : (Ar.deeper (PyProof.Rows.envOfC "_law_dice" (defScope s__law_dice) s.heap.objs.size A.f__law_dice cdv)).units + 65 < cLine := by have := hr.un; omega
    have HN := sc__law_dice.nd
    exact SSs_cons (SS_if (ST.su (ST_lt_lt (SV.sp (SV_sub (SV.sp SV_int) (SV.sp SV_int))) (SV.sp (SV_sh 0)) (SV.sp SV_int))) (SSs_cons (SS_ret (SV.se (SV_lst (SA_cons (SV.sp (SV_abs rfl T.b_abs (SA_cons (SV.sp (SV_sh 0)) SA_nil))) (SA_cons (SV.sp SV_int) (SA_cons (SV.sp SV_int) SA_nil)))))) <|
    SSs_nil) (SSs_nil)) <|
    SSs_cons (SS_ret (SE_lst (SN_cons (SV.se (SV_sh 0)) (SN_cons (SV.se (SV.frz (SV_plus (SV.sp SV_int) (SV.sp (SV_mod (SV.sp (SV_toInt rfl T.b_int (SA_cons (SV.sp (SV_sh 0)) SA_nil))) (SV.sp SV_int)))))) (SN_cons (SV.se (SV_toInt rfl T.b_int (SA_cons (SV.sp (SV_ge (SV.sp (SV_sh 0)) (SV.sp (SV_pow (SV.sp SV_int) (SV.sp SV_int))))) SA_nil))) SN_nil))))) <|
    SSs_nil
/-! _law_rounds: slots 0 _law_script, 1 _law_most_now, 2 _law_cells, 3 _law_cell -/
noncomputable def g__law_rounds : En → RS :=
    sCons (sSet 2 (pE (bFrz (bSlS (bSh 0) pNo (pI (bSh 1)))))) <|
    sCons (sIf (uT (bT (b2 oEq (bSh 2) (bLst (aNil))))) (sCons (sSet 2 (pE (bFrz (bLst (aCons (bC (.int 0)) (aNil)))))) <|
    sNil) (sNil)) <|
    sCons (sRet (pE (bLc [3] (jSeq (bSh 2)) (gN 3) (bYes) (bCall T__law_dice (aCons (bSh 3) (aNil)))))) <|
    sNil
noncomputable def T__law_rounds : List O → RC := fnT 2 4 [] g__law_rounds
theorem sc__law_rounds : FnScope ["_law_script", "_law_most_now", "_law_cells", "_law_cell"] ["_law_script", "_law_most_now"] (defScope s__law_rounds) := ⟨rfl, rfl, rfl, by decide +kernel, rfl, by decide +kernel, by decide +kernel⟩
theorem ok__law_rounds (T : Txt K mg W A) : FnOk P w K mg base (L2.CX P w) 2 A.f__law_rounds A.d__law_rounds ["_law_script", "_law_most_now"] (spC W 2 [] T__law_rounds) :=
  fn_ok T.F__law_rounds sc__law_rounds rfl rfl (by decide) (by decide) fun cdv Ar outer s H E hr => by
    have u : (Ar.deeper (PyProof.Rows.envOfC "_law_rounds" (defScope s__law_rounds) s.heap.objs.size A.f__law_rounds cdv)).units + 65 < cLine := by have := hr.un; omega
    have HN := sc__law_rounds.nd
    exact SSs_cons (SS_set 2 HN (SV.se (SV.frz (SV_sliceS T.kl (SV.sp (SV_sh 0)) SO_no (SO_some (SV.sp (SV_sh 1))))))) <|
    SSs_cons (SS_if (ST.su (ST_eq u (SV.sp (SV_sh 2)) (SV.sp (SV_lst SA_nil)))) (SSs_cons (SS_set 2 HN (SV.se (SV.frz (SV_lst (SA_cons (SV.sp SV_int) SA_nil))))) <|
    SSs_nil) (SSs_nil)) <|
    SSs_cons (SS_ret (SV.se (SV_lc [("_law_cell", 3)] rfl HN (SJ.k (SJ_seq (SV.sp (SV_sh 2)))) (blkOk_by rfl) (fun _ _ _ _ _ => (SG_name 3 HN (not_outs (by decide)))) (fun _ _ _ _ _ => STs_nil) (fun _ _ _ _ _ => (SV_call (ok__law_dice T) fnT_len (hr.mono (by decide)) rfl T.m__law_dice T.F__law_dice.kp T.B__law_dice takes0 (SA_cons (SV.sp (SV_sh 3)) SA_nil)))))) <|
    SSs_nil
/-! in_turn: slots 0 lists, 1 order, 2 got, 3 taken, 4 one, 5 left, 6 thing; owned: ['got', 'taken'] -/
noncomputable def g_in_turn : En → RS :=
    sCons (sSet 2 (pE (b2 oStar (bLst (aCons (bC .non) (aNil))) (bN oLen (aCons (bSh 0) (aNil)))))) <|
    sCons (sSet 3 (pE (bLst (aNil)))) <|
    sCons (sFor (iJ (jSeq (bSh 1))) (gN 4) (sCons (sSet 5 (pE (bFrz (bLc [6] (jSeq (b2 oAt (bSh 0) (bSh 4))) (gN 6) (bT (b2 oNotIn (bSh 6) (bVar 3))) (bSh 6))))) <|
    sCons (sIf (uT (bT (b2 oNe (bSh 5) (bLst (aNil))))) (sCons (sSetIx 2 (pE (b2 oAt (bSh 5) (bC (.int 0)))) (bSh 4)) <|
    sCons (sExpr (eApp 3 (pE (b2 oAt (bSh 5) (bC (.int 0)))))) <|
    sNil) (sNil)) <|
    sNil)) <|
    sCons (sRet (pE (bN oTuple (aCons (bVar 2) (aNil))))) <|
    sNil
noncomputable def T_in_turn : List O → RC := fnT 2 7 [] g_in_turn
theorem sc_in_turn : FnScope ["lists", "order", "got", "taken", "one", "left", "thing"] ["lists", "order"] (defScope s_in_turn) := ⟨rfl, rfl, rfl, by decide +kernel, rfl, by decide +kernel, by decide +kernel⟩
theorem ok_in_turn (T : Txt K mg W A) : FnOk P w K mg base (L2.CX P w) 1 A.f_in_turn A.d_in_turn ["lists", "order"] (spC W 2 [] T_in_turn) :=
  fn_ok T.F_in_turn sc_in_turn rfl rfl (by decide) (by decide) fun cdv Ar outer s H E hr => by
    have u : (Ar.deeper (PyProof.Rows.envOfC "in_turn" (defScope s_in_turn) s.heap.objs.size A.f_in_turn cdv)).units + 65 < cLine := by have := hr.un; omega
    have HN := sc_in_turn.nd
    exact SSs_cons (SS_set 2 HN (SV.se (SV_star (SV.sp (SV_lst (SA_cons (SV.sp SV_non) SA_nil))) (SV.sp (SV_len rfl T.b_len (SA_cons (SV.sp (SV_sh 0)) SA_nil)))))) <|
    SSs_cons (SS_set 3 HN (SV.se (SV_lst SA_nil))) <|
    SSs_cons (SS_for (passes_of rfl) rfl (SJ.si (SJ_seq (SV.sp (SV_sh 1)))) (SG_name 4 HN) (SSs_cons (SS_setLcP 5 true [("thing", 6)] rfl HN (SJ.k (SJ_seq (SV.sp (SV_at u (SV.sp (SV_sh 0)) (SV.sp (SV_sh 4)))))) (blkOk_by rfl) (fun _ _ _ _ _ => (SG_name 6 HN (not_outs (by decide)))) (fun _ _ _ _ _ => (STs_one (ST_notIn u (SV.sp (SV_sh 6)) (SP_var 3)))) (fun _ _ _ _ _ => (SV_sh 6))) <|
    SSs_cons (SS_if (ST.su (ST_ne u (SV.sp (SV_sh 5)) (SV.sp (SV_lst SA_nil)))) (SSs_cons (SS_setIx 2 (SV.se (SV_at u (SV.sp (SV_sh 5)) (SV.sp SV_int))) (SV.sp (SV_sh 4))) <|
    SSs_cons (SS_expr (SE_append 3 (SV.se (SV_at u (SV.sp (SV_sh 5)) (SV.sp SV_int))))) <|
    SSs_nil) (SSs_nil)) <|
    SSs_nil)) <|
    SSs_cons (SS_ret (SV.se (SV_tuple rfl T.b_tuple (SA_cons (SP_var 2) SA_nil)))) <|
    SSs_nil
/-! all_ways: slots 0 things, 1 found, 2 place, 3 thing, 4 rest; owned: ['found'] -/
noncomputable def g_all_ways (T_rec : List O → RC) : En → RS :=
    sCons (sIf (uT (bT (b2 oEq (bN oLen (aCons (bSh 0) (aNil))) (bC (.int 0))))) (sCons (sRet (pE (bTup (aCons (bTup (aNil)) (aNil))))) <|
    sNil) (sNil)) <|
    sCons (sSet 1 (pE (bLst (aNil)))) <|
    sCons (sFor (iJ (jEnum (bSh 0))) (gT (gsCons (gN 2) (gsCons (gN 3) (gsNil)))) (sCons (sExt 1 (pE (bLc [4] (jSeq (bFrz (bCall (T_rec) (aCons (bFrz (b2 oPlus (bSl (bSh 0) pNo (pI (bSh 2))) (bSl (bSh 0) (pI (b2 oPlus (bSh 2) (bC (.int 1)))) pNo))) (aNil))))) (gN 4) (bYes) (bFrz (b2 oPlus (bTup (aCons (bSh 3) (aNil))) (bSh 4)))))) <|
    sNil)) <|
    sCons (sRet (pE (bN oTuple (aCons (bVar 1) (aNil))))) <|
    sNil
noncomputable def T_all_ways : Nat → List O → RC
  | 0 => fun _ => .stk
  | r + 1 => fnT 1 5 [] (g_all_ways (T_all_ways r))
theorem len_all_ways : ∀ (r : Nat) (ds : List O), T_all_ways r ds ≠ .stk → ds.length = 1
  | 0, ds, h => absurd rfl h
  | r + 1, ds, h => fnT_len ds h
theorem sc_all_ways : FnScope ["things", "found", "place", "thing", "rest"] ["things"] (defScope s_all_ways) := ⟨rfl, rfl, rfl, by decide +kernel, rfl, by decide +kernel, by decide +kernel⟩
theorem ok_all_ways (T : Txt K mg W A) : ∀ r, FnOk P w K mg base (L2.CX P w) (0 + r) A.f_all_ways A.d_all_ways ["things"] (spC W 1 [] (T_all_ways r))
  | 0 => fn_stk _ fun _ => rfl
  | r + 1 => by
    have ih := ok_all_ways T r
    have hlen := len_all_ways r
    exact fn_ok T.F_all_ways sc_all_ways rfl rfl (by decide) (by decide) fun cdv Ar outer s H E hr => by
      have u : (Ar.deeper (PyProof.Rows.envOfC "all_ways" (defScope s_all_ways) s.heap.objs.size A.f_all_ways cdv)).units + 65 < cLine := by have := hr.un; omega
      have HN := sc_all_ways.nd
      exact SSs_cons (SS_if (ST.su (ST_eq u (SV.sp (SV_len rfl T.b_len (SA_cons (SV.sp (SV_sh 0)) SA_nil))) (SV.sp SV_int))) (SSs_cons (SS_ret (SV.se (SV_tup (SA_cons (SV.sp (SV_tup SA_nil)) SA_nil)))) <|
      SSs_nil) (SSs_nil)) <|
      SSs_cons (SS_set 1 HN (SV.se (SV_lst SA_nil))) <|
      SSs_cons (SS_for (passes_of rfl) rfl (SJ.si (SJ_enum rfl T.b_enumerate (SV.sp (SV_sh 0)))) (SG_tup rfl (SGs_cons (SG_name 2 HN) (SGs_cons (SG_name 3 HN) SGs_nil))) (SSs_cons (SS_ext 1 HN (SV.se (SV_lc [("rest", 4)] rfl HN (SJ.k (SJ_seq (SV.sp (SV.frz (SV_call ih hlen (hr.mono (Nat.le_refl _)) rfl T.m_all_ways T.F_all_ways.kp T.B_all_ways (takes_of rfl rfl rfl rfl) (SA_cons (SV.sp (SV.frz (SV_plus (SV.sp (SV_slice (SV.sp (SV_sh 0)) SO_no (SO_some (SV.sp (SV_sh 2))))) (SV.sp (SV_slice (SV.sp (SV_sh 0)) (SO_some (SV.sp (SV_plus (SV.sp (SV_sh 2)) (SV.sp SV_int)))) SO_no))))) SA_nil)))))) (blkOk_by rfl) (fun _ _ _ _ _ => (SG_name 4 HN (not_outs (by decide)))) (fun _ _ _ _ _ => STs_nil) (fun _ _ _ _ _ => (SV.frz (SV_plus (SV.sp (SV_tup (SA_cons (SV.sp (SV_sh 3)) SA_nil))) (SV.sp (SV_sh 4)))))))) <|
      SSs_nil)) <|
      SSs_cons (SS_ret (SV.se (SV_tuple rfl T.b_tuple (SA_cons (SP_var 1) SA_nil)))) <|
      SSs_nil
/-! _law_roll: slots 0 _law_dice_here, 1 _law_many, 2 _law_found; owned: ['_law_dice_here'] -/
noncomputable def g__law_roll : En → RS :=
    sCons (sIf (uT (bOr (bT (b2 oEq (b2 oAt (bVar 0) (bC (.int 2))) (bC (.int 2)))) (bAnd (bT (b2 oEq (b2 oAt (bVar 0) (bC (.int 2))) (bC (.int 1)))) (bT (b2 oGt (b2 oAt (bVar 0) (bC (.int 0))) (bC (.int 0))))))) (sCons (sSet 2 (pE (b2 oMod (bN oInt (aCons (b2 oAt (bVar 0) (bC (.int 0))) (aNil))) (bSh 1)))) <|
    sCons (sSetIx 0 (pE (b2 oDiv (b2 oAt (bVar 0) (bC (.int 0))) (bSh 1))) (bC (.int 0))) <|
    sCons (sRet (pE (bSh 2))) <|
    sNil) (sNil)) <|
    sCons (sSetIx 0 (pE (bC (.int 0))) (bC (.int 2))) <|
    sCons (sSetIx 0 (pE (b2 oMod (bN oInt (aCons (b2 oPlus (b2 oPlus (b2 oStar (b2 oAt (bVar 0) (bC (.int 0))) (bC (.int 48271))) (b2 oStar (b2 oAt (bVar 0) (bC (.int 1))) (bC (.int 69621)))) (bC (.int 11))) (aNil))) (bC (.int 2147483647)))) (bC (.int 0))) <|
    sCons (sSetIx 0 (pE (bFrz (b2 oPlus (b2 oAt (bVar 0) (bC (.int 1))) (bC (.int 1))))) (bC (.int 1))) <|
    sCons (sRet (pE (b2 oMod (bN oInt (aCons (b2 oPlus (b2 oDiv (b2 oAt (bVar 0) (bC (.int 0))) (bC (.int 7))) (b2 oAt (bVar 0) (bC (.int 0)))) (aNil))) (bSh 1)))) <|
    sNil
noncomputable def T__law_roll : List O → RC := fnT 2 3 [0] g__law_roll
theorem sc__law_roll : FnScope ["_law_dice_here", "_law_many", "_law_found"] ["_law_dice_here", "_law_many"] (defScope s__law_roll) := ⟨rfl, rfl, rfl, by decide +kernel, rfl, by decide +kernel, by decide +kernel⟩
theorem ok__law_roll (T : Txt K mg W A) : FnOk P w K mg base (L2.CX P w) 1 A.f__law_roll A.d__law_roll ["_law_dice_here", "_law_many"] (spC W 2 [0] T__law_roll) :=
  fn_ok T.F__law_roll sc__law_roll rfl rfl (by decide) (by decide) fun cdv Ar outer s H E hr => by
    have u : (Ar.deeper (PyProof.Rows.envOfC "_law_roll" (defScope s__law_roll) s.heap.objs.size A.f__law_roll cdv)).units + 65 < cLine := by have := hr.un; omega
    have HN := sc__law_roll.nd
    exact SSs_cons (SS_if (ST.su (STw.st (STw_or (ST_eq u (SV.sp (SV_at u (SP_var 0) (SV.sp SV_int))) (SV.sp SV_int)) (STw_or1 (STw.st (STw_and (ST_eq u (SV.sp (SV_at u (SP_var 0) (SV.sp SV_int))) (SV.sp SV_int)) (STw_and1 (ST_gt (SV.sp (SV_at u (SP_var 0) (SV.sp SV_int))) (SV.sp SV_int))))))))) (SSs_cons (SS_set 2 HN (SV.se (SV_mod (SV.sp (SV_toInt rfl T.b_int (SA_cons (SV.sp (SV_at u (SP_var 0) (SV.sp SV_int))) SA_nil))) (SV.sp (SV_sh 1))))) <|
    SSs_cons (SS_setIx 0 (SV.se (SV_div (SV.sp (SV_at u (SP_var 0) (SV.sp SV_int))) (SV.sp (SV_sh 1)))) (SV.sp SV_int)) <|
    SSs_cons (SS_ret (SV.se (SV_sh 2))) <|
    SSs_nil) (SSs_nil)) <|
    SSs_cons (SS_setIx 0 (SV.se SV_int) (SV.sp SV_int)) <|
    SSs_cons (SS_setIx 0 (SV.se (SV_mod (SV.sp (SV_toInt rfl T.b_int (SA_cons (SV.sp (SV_plus (SV.sp (SV_plus (SV.sp (SV_star (SV.sp (SV_at u (SP_var 0) (SV.sp SV_int))) (SV.sp SV_int))) (SV.sp (SV_star (SV.sp (SV_at u (SP_var 0) (SV.sp SV_int))) (SV.sp SV_int))))) (SV.sp SV_int))) SA_nil))) (SV.sp SV_int))) (SV.sp SV_int)) <|
    SSs_cons (SS_setIx 0 (SV.se (SV.frz (SV_plus (SV.sp (SV_at u (SP_var 0) (SV.sp SV_int))) (SV.sp SV_int)))) (SV.sp SV_int)) <|
    SSs_cons (SS_ret (SV.se (SV_mod (SV.sp (SV_toInt rfl T.b_int (SA_cons (SV.sp (SV_plus (SV.sp (SV_div (SV.sp (SV_at u (SP_var 0) (SV.sp SV_int))) (SV.sp SV_int))) (SV.sp (SV_at u (SP_var 0) (SV.sp SV_int))))) SA_nil))) (SV.sp (SV_sh 1))))) <|
    SSs_nil
/-! _law_full: slots 0 _law_dice_here, 1 _law_many, 2 _law_left, 3 _law_order, 4 _law_one; owned: ['_law_dice_here', '_law_left', '_law_order'] -/
noncomputable def g__law_full : En → RS :=
    sCons (sPar 2 3 (nCons (pE (bLstR (rg1 (bSh 1)))) (nCons (pE (bLst (aNil))) (nNil)))) <|
    sCons (whl (uT (bT (b2 oNe (bVar 2) (bLst (aNil))))) (sCons (sSet 4 (eOp2v oAt 2 (eCall T__law_roll [(0, 0)] (nLend 0 (nCons (pE (bN oLen (aCons (bVar 2) (aNil)))) (nNil)))))) <|
    sCons (sExpr (eApp 3 (pE (bSh 4)))) <|
    sCons (sExpr (eRem 2 (bSh 4))) <|
    sNil) fuelW) <|
    sCons (sRet (pE (bN oTupleM (aCons (bVar 3) (aNil))))) <|
    sNil
noncomputable def T__law_full : List O → RC := fnT 2 5 [0] g__law_full
theorem sc__law_full : FnScope ["_law_dice_here", "_law_many", "_law_left", "_law_order", "_law_one"] ["_law_dice_here", "_law_many"] (defScope s__law_full) := ⟨rfl, rfl, rfl, by decide +kernel, rfl, by decide +kernel, by decide +kernel⟩
theorem ok__law_full (T : Txt K mg W A) : FnOk P w K mg base (L2.CX P w) 2 A.f__law_full A.d__law_full ["_law_dice_here", "_law_many"] (spC W 2 [0] T__law_full) :=
  fn_ok T.F__law_full sc__law_full rfl rfl (by decide) (by decide) fun cdv Ar outer s H E hr => by
    have u : (Ar.deeper (PyProof.Rows.envOfC "_law_full" (defScope s__law_full) s.heap.objs.size A.f__law_full cdv)).units + 65 < cLine := by have := hr.un; omega
    have HN := sc__law_full.nd
    exact SSs_cons (SS_par 2 3 rfl HN (SN_cons (SV.se (SV_listR rfl rfl T.b_list (SR_1 rfl T.b_range (SV.sp (SV_sh 1))))) (SN_cons (SV.se (SV_lst SA_nil)) SN_nil))) <|
    SSs_cons (SS_while fuelW (passes_of rfl) (ST.su (ST_ne u (SP_var 2) (SV.sp (SV_lst SA_nil)))) (SSs_cons (SS_set 4 HN (SE_atv 2 u (SE_call (ks := [some 0, none]) [(0, 0)] (ok__law_roll T) fnT_len (hr.mono (by decide)) rfl T.m__law_roll T.F__law_roll.kp T.B__law_roll (takes_of rfl rfl rfl rfl) (SN_lend 0 (SN_cons (SV.se (SV_len rfl T.b_len (SA_cons (SP_var 2) SA_nil))) SN_nil))))) <|
    SSs_cons (SS_expr (SE_append 3 (SV.se (SV_sh 4)))) <|
    SSs_cons (SS_expr (SE_remove 2 rfl (takes_of rfl rfl rfl rfl) (SV.sp (SV_sh 4)))) <|
    SSs_nil)) <|
    SSs_cons (SS_ret (SV.se (SV_tupleM rfl T.b_tuple (SA_cons (SP_var 3) SA_nil)))) <|
    SSs_nil
/-! _law_list: slots 0 _law_dice_here, 1 _law_many, 2 _law_left, 3 _law_found, 4 _law_turn, 5 _law_one; owned: ['_law_dice_here', '_law_found', '_law_left'] -/
noncomputable def g__law_list : En → RS :=
    sCons (sPar 2 3 (nCons (pE (bLstR (rg1 (bSh 1)))) (nCons (pE (bLst (aNil))) (nNil)))) <|
    sCons (sFor (iRange1 (eCall T__law_roll [(0, 0)] (nLend 0 (nCons (pE (bFrz (b2 oPlus (bSh 1) (bC (.int 1))))) (nNil))))) (gN 4) (sCons (sSet 5 (eOp2v oAt 2 (eCall T__law_roll [(0, 0)] (nLend 0 (nCons (pE (bN oLen (aCons (bVar 2) (aNil)))) (nNil)))))) <|
    sCons (sExpr (eApp 3 (pE (bSh 5)))) <|
    sCons (sExpr (eRem 2 (bSh 5))) <|
    sNil)) <|
    sCons (sRet (pE (bN oTupleM (aCons (bVar 3) (aNil))))) <|
    sNil
noncomputable def T__law_list : List O → RC := fnT 2 6 [0] g__law_list
theorem sc__law_list : FnScope ["_law_dice_here", "_law_many", "_law_left", "_law_found", "_law_turn", "_law_one"] ["_law_dice_here", "_law_many"] (defScope s__law_list) := ⟨rfl, rfl, rfl, by decide +kernel, rfl, by decide +kernel, by decide +kernel⟩
theorem ok__law_list (T : Txt K mg W A) : FnOk P w K mg base (L2.CX P w) 2 A.f__law_list A.d__law_list ["_law_dice_here", "_law_many"] (spC W 2 [0] T__law_list) :=
  fn_ok T.F__law_list sc__law_list rfl rfl (by decide) (by decide) fun cdv Ar outer s H E hr => by
    have u : (Ar.deeper (PyProof.Rows.envOfC "_law_list" (defScope s__law_list) s.heap.objs.size A.f__law_list cdv)).units + 65 < cLine := by have := hr.un; omega
    have HN := sc__law_list.nd
    exact SSs_cons (SS_par 2 3 rfl HN (SN_cons (SV.se (SV_listR rfl rfl T.b_list (SR_1 rfl T.b_range (SV.sp (SV_sh 1))))) (SN_cons (SV.se (SV_lst SA_nil)) SN_nil))) <|
    SSs_cons (SS_for (passes_of rfl) rfl (SI_range1 rfl T.b_range (SE_call (ks := [some 0, none]) [(0, 0)] (ok__law_roll T) fnT_len (hr.mono (by decide)) rfl T.m__law_roll T.F__law_roll.kp T.B__law_roll (takes_of rfl rfl rfl rfl) (SN_lend 0 (SN_cons (SV.se (SV.frz (SV_plus (SV.sp (SV_sh 1)) (SV.sp SV_int)))) SN_nil)))) (SG_name 4 HN) (SSs_cons (SS_set 5 HN (SE_atv 2 u (SE_call (ks := [some 0, none]) [(0, 0)] (ok__law_roll T) fnT_len (hr.mono (by decide)) rfl T.m__law_roll T.F__law_roll.kp T.B__law_roll (takes_of rfl rfl rfl rfl) (SN_lend 0 (SN_cons (SV.se (SV_len rfl T.b_len (SA_cons (SP_var 2) SA_nil))) SN_nil))))) <|
    SSs_cons (SS_expr (SE_append 3 (SV.se (SV_sh 5)))) <|
    SSs_cons (SS_expr (SE_remove 2 rfl (takes_of rfl rfl rfl rfl) (SV.sp (SV_sh 5)))) <|
    SSs_nil)) <|
    SSs_cons (SS_ret (SV.se (SV_tupleM rfl T.b_tuple (SA_cons (SP_var 3) SA_nil)))) <|
    SSs_nil
/-! Wish.__init__: slots 0 self, 1 order, 2 place, 3 one; owned: ['self'] -/
noncomputable def g_Wish___init__ : En → RS :=
    sCons (sFldS [0] 0 "order" (pE (bN oTuple (aCons (bSh 1) (aNil))))) <|
    sCons (sFldS [0] 0 "ranks" (pE (bFrz (bN oDict (aCons (bLc [2, 3] (jEnum (bAsSh (bFldC [0] "order" (bVar 0)))) (gT (gsCons (gN 2) (gsCons (gN 3) (gsNil)))) (bYes) (bTup (aCons (bSh 3) (aCons (bSh 2) (aNil))))) (aNil)))))) <|
    sNil
noncomputable def T_Wish___init__ : List O → RC := fnT 2 4 [0] g_Wish___init__
theorem sc_Wish___init__ : FnScope ["self", "order", "place", "one"] ["self", "order"] (defScope s_Wish___init__) := ⟨rfl, rfl, rfl, by decide +kernel, rfl, by decide +kernel, by decide +kernel⟩
theorem ok_Wish___init__ (T : Txt K mg W A) : FnOk P w K mg base (L2.CX P w) 1 A.f_Wish___init__ A.d_Wish___init__ ["self", "order"] (spC W 2 [0] T_Wish___init__) :=
  fn_ok T.F_Wish___init__ sc_Wish___init__ rfl rfl (by decide) (by decide) fun cdv Ar outer s H E hr => by
    have u : (Ar.deeper (PyProof.Rows.envOfC "Wish.__init__" (defScope s_Wish___init__) s.heap.objs.size A.f_Wish___init__ cdv)).units + 65 < cLine := by have := hr.un; omega
    have HN := sc_Wish___init__.nd
    exact SSs_cons (SS_fld [0] 0 T.n_order (SV.se (SV_tuple rfl T.b_tuple (SA_cons (SV.sp (SV_sh 1)) SA_nil)))) <|
    SSs_cons (SS_fld [0] 0 T.n_ranks (SV.se (SV.frz (SV_dict rfl rfl T.b_dict (SA_cons (SV.sp (SV_lc [("place", 2), ("one", 3)] rfl HN (SJ.k (SJ_enum rfl T.b_enumerate (SV.sp (SV_asSh (SP_fld [0] T.n_order (SP_var 0)))))) (blkOk_by rfl) (fun _ _ _ _ _ => (SG_tup rfl (SGs_cons (SG_name 2 HN (not_outs (by decide))) (SGs_cons (SG_name 3 HN (not_outs (by decide))) SGs_nil)))) (fun _ _ _ _ _ => STs_nil) (fun _ _ _ _ _ => (SV_tup (SA_cons (SV.sp (SV_sh 3)) (SA_cons (SV.sp (SV_sh 2)) SA_nil)))))) SA_nil))))) <|
    SSs_nil
theorem non_Wish___init__ : ∀ ds d fin, T_Wish___init__ ds = .ok d fin → d = .sh .non := fnT_non (noRet_cons noRet_fld (noRet_cons noRet_fld (noRet_nil)))
/-! Wish.rank: slots 0 self, 1 one -/
noncomputable def g_Wish_rank : En → RS :=
    sCons (sRet (pE (bIf (bT (b2 oIs (bSh 1) (bC .non))) (bN oLen (aCons (bFldC [0] "order" (bSh 0)) (aNil))) (bDGet (bFldC [0] "ranks" (bSh 0)) (bSh 1))))) <|
    sNil
noncomputable def T_Wish_rank : List O → RC := fnT 2 2 [] g_Wish_rank
theorem sc_Wish_rank : FnScope ["self", "one"] ["self", "one"] (defScope s_Wish_rank) := ⟨rfl, rfl, rfl, by decide +kernel, rfl, by decide +kernel, by decide +kernel⟩
theorem ok_Wish_rank (T : Txt K mg W A) : FnOk P w K mg base (L2.CX P w) 1 A.f_Wish_rank A.d_Wish_rank ["self", "one"] (spC W 2 [] T_Wish_rank) :=
  fn_ok T.F_Wish_rank sc_Wish_rank rfl rfl (by decide) (by decide) fun cdv Ar outer s H E hr => by
    have u : (Ar.deeper (PyProof.Rows.envOfC "Wish.rank" (defScope s_Wish_rank) s.heap.objs.size A.f_Wish_rank cdv)).units + 65 < cLine := by have := hr.un; omega
    have HN := sc_Wish_rank.nd
    exact SSs_cons (SS_ret (SV.se (SV_if (ST_is (SV.sp (SV_sh 1)) (SV.sp SV_non)) (SV_len rfl T.b_len (SA_cons (SP_fld [0] T.n_order (SV.sp (SV_sh 0))) SA_nil)) (SV_dget (u1 u) (SP_fld [0] T.n_ranks (SV.sp (SV_sh 0))) (SV.sp (SV_sh 1)))))) <|
    SSs_nil
/-! Wish.ahead_of: slots 0 self, 1 one, 2 place -/
noncomputable def g_Wish_ahead_of : En → RS :=
    sCons (sSet 2 (pE (bFrz (bMeth 0 "rank" T_Wish_rank (bSh 0) (aCons (bSh 1) (aNil)))))) <|
    sCons (sRet (pE (bIf (bT (b2 oIs (bSh 2) (bC .non))) (bAsSh (bFldC [0] "order" (bSh 0))) (bFrz (bSl (bFldC [0] "order" (bSh 0)) pNo (pI (bSh 2))))))) <|
    sNil
noncomputable def T_Wish_ahead_of : List O → RC := fnT 2 3 [] g_Wish_ahead_of
theorem sc_Wish_ahead_of : FnScope ["self", "one", "place"] ["self", "one"] (defScope s_Wish_ahead_of) := ⟨rfl, rfl, rfl, by decide +kernel, rfl, by decide +kernel, by decide +kernel⟩
theorem ok_Wish_ahead_of (T : Txt K mg W A) : FnOk P w K mg base (L2.CX P w) 2 A.f_Wish_ahead_of A.d_Wish_ahead_of ["self", "one"] (spC W 2 [] T_Wish_ahead_of) :=
  fn_ok T.F_Wish_ahead_of sc_Wish_ahead_of rfl rfl (by decide) (by decide) fun cdv Ar outer s H E hr => by
    have u : (Ar.deeper (PyProof.Rows.envOfC "Wish.ahead_of" (defScope s_Wish_ahead_of) s.heap.objs.size A.f_Wish_ahead_of cdv)).units + 65 < cLine := by have := hr.un; omega
    have HN := sc_Wish_ahead_of.nd
    exact SSs_cons (SS_set 2 HN (SV.se (SV.frz (SV_meth (c := 0) (ok_Wish_rank T) fnT_len (hr.mono (by decide)) T.C_Wish T.M_Wish_rank T.B_Wish_rank (takes_of rfl rfl rfl rfl) (SV.sp (SV_sh 0)) (SA_cons (SV.sp (SV_sh 1)) SA_nil))))) <|
    SSs_cons (SS_ret (SV.se (SV_if (ST_is (SV.sp (SV_sh 2)) (SV.sp SV_non)) (SV_asSh (SP_fld [0] T.n_order (SV.sp (SV_sh 0)))) (SV.frz (SV_slice (SP_fld [0] T.n_order (SV.sp (SV_sh 0))) SO_no (SO_some (SV.sp (SV_sh 2)))))))) <|
    SSs_nil
/-! improved: slots 0 lists, 1 got, 2 wishes, 3 owner, 4 start, 5 ways, 6 here, 7 thing, 8 order, 9 one; owned: ['ways'] -/
noncomputable def g_improved : En → RS :=
    sCons (sSet 2 (eFrz (eLc [8] (iJ (jSeq (bSh 0))) (gN 8) (uYes) (eFrz (eMake 0 T_Wish___init__ (nCons (pE (bSh 8)) (nNil))))))) <|
    sCons (sSet 3 (pE (bFrz (bN oDict (aCons (bLc [9, 7] (jEnum (bSh 1)) (gT (gsCons (gN 9) (gsCons (gN 7) (gsNil)))) (bYes) (bTup (aCons (bSh 7) (aCons (bSh 9) (aNil))))) (aNil)))))) <|
    sCons (sFor (iJ (jRange1 (bN oLen (aCons (bSh 0) (aNil))))) (gN 4) (sCons (sSet 5 (pE (bLst (aCons (bTup (aCons (bSh 4) (aNil))) (aNil))))) <|
    sCons (whl (uT (bT (b2 oNe (bVar 5) (bLst (aNil))))) (sCons (sSet 6 (eFrz (ePop 5 (bC (.int 0))))) <|
    sCons (sFor (iJ (jSeq (bFrz (bMeth 0 "ahead_of" T_Wish_ahead_of (b2 oAt (bSh 2) (b2 oAt (bSh 6) (b1 oNeg (bC (.int 1))))) (aCons (b2 oAt (bSh 1) (b2 oAt (bSh 6) (b1 oNeg (bC (.int 1))))) (aNil)))))) (gN 7) (sCons (sIf (uT (bAnd (bT (b2 oEq (b2 oAt (bSh 3) (bSh 7)) (bSh 4))) (bT (b2 oGt (bN oLen (aCons (bSh 6) (aNil))) (bC (.int 1)))))) (sCons (sRet (pE (bSh 6))) <|
    sNil) (sNil)) <|
    sCons (sIf (uT (bAnd (bT (b2 oGt (b2 oAt (bSh 3) (bSh 7)) (bSh 4))) (bT (b2 oNotIn (b2 oAt (bSh 3) (bSh 7)) (bSh 6))))) (sCons (sExpr (eApp 5 (pE (bFrz (b2 oPlus (bSh 6) (bTup (aCons (b2 oAt (bSh 3) (bSh 7)) (aNil)))))))) <|
    sNil) (sNil)) <|
    sNil)) <|
    sNil) fuelW) <|
    sNil)) <|
    sCons (sRet (pE (bC .non))) <|
    sNil
noncomputable def T_improved : List O → RC := fnT 2 10 [] g_improved
theorem sc_improved : FnScope ["lists", "got", "wishes", "owner", "start", "ways", "here", "thing", "order", "one"] ["lists", "got"] (defScope s_improved) := ⟨rfl, rfl, rfl, by decide +kernel, rfl, by decide +kernel, by decide +kernel⟩
theorem ok_improved (T : Txt K mg W A) : FnOk P w K mg base (L2.CX P w) 3 A.f_improved A.d_improved ["lists", "got"] (spC W 2 [] T_improved) :=
  fn_ok T.F_improved sc_improved rfl rfl (by decide) (by decide) fun cdv Ar outer s H E hr => by
    have u : (Ar.deeper (PyProof.Rows.envOfC "improved" (defScope s_improved) s.heap.objs.size A.f_improved cdv)).units + 65 < cLine := by have := hr.un; omega
    have HN := sc_improved.nd
    exact SSs_cons (SS_setLcE 2 true [("order", 8)] rfl HN (SJ.si (SJ_seq (SV.sp (SV_sh 0)))) (blkOk_by rfl) (fun _ _ _ _ _ => (SG_name 8 HN (not_outs (by decide)))) (fun _ _ _ _ _ => SUs_nil) (fun _ _ _ _ _ => (SE.frz (SE_make (c := 0) T.K_Wish (ok_Wish___init__ T) fnT_len (hr.mono (by decide)) rfl T.m_Wish T.B_Wish___init__ takes0 (SN_cons (SV.se (SV_sh 8)) SN_nil) non_Wish___init__)))) <|
    SSs_cons (SS_set 3 HN (SV.se (SV.frz (SV_dict rfl rfl T.b_dict (SA_cons (SV.sp (SV_lc [("one", 9), ("thing", 7)] rfl HN (SJ.k (SJ_enum rfl T.b_enumerate (SV.sp (SV_sh 1)))) (blkOk_by rfl) (fun _ _ _ _ _ => (SG_tup rfl (SGs_cons (SG_name 9 HN (not_outs (by decide))) (SGs_cons (SG_name 7 HN (not_outs (by decide))) SGs_nil)))) (fun _ _ _ _ _ => STs_nil) (fun _ _ _ _ _ => (SV_tup (SA_cons (SV.sp (SV_sh 7)) (SA_cons (SV.sp (SV_sh 9)) SA_nil)))))) SA_nil))))) <|
    SSs_cons (SS_for (passes_of rfl) rfl (SJ.si (SJ_range1 rfl T.b_range (SV.sp (SV_len rfl T.b_len (SA_cons (SV.sp (SV_sh 0)) SA_nil))))) (SG_name 4 HN) (SSs_cons (SS_set 5 HN (SV.se (SV_lst (SA_cons (SV.sp (SV_tup (SA_cons (SV.sp (SV_sh 4)) SA_nil))) SA_nil)))) <|
    SSs_cons (SS_while fuelW (passes_of rfl) (ST.su (ST_ne u (SP_var 5) (SV.sp (SV_lst SA_nil)))) (SSs_cons (SS_set 6 HN (SE.frz (SE_pop 5 (SV.sp SV_int)))) <|
    SSs_cons (SS_for (passes_of rfl) rfl (SJ.si (SJ_seq (SV.sp (SV.frz (SV_meth (c := 0) (ok_Wish_ahead_of T) fnT_len (hr.mono (by decide)) T.C_Wish T.M_Wish_ahead_of T.B_Wish_ahead_of (takes_of rfl rfl rfl rfl) (SV.sp (SV_at u (SV.sp (SV_sh 2)) (SV.sp (SV_at u (SV.sp (SV_sh 6)) (SV.sp (SV_neg (SV.sp SV_int))))))) (SA_cons (SV.sp (SV_at u (SV.sp (SV_sh 1)) (SV.sp (SV_at u (SV.sp (SV_sh 6)) (SV.sp (SV_neg (SV.sp SV_int))))))) SA_nil)))))) (SG_name 7 HN) (SSs_cons (SS_if (ST.su (STw.st (STw_and (ST_eq u (SV.sp (SV_at u (SV.sp (SV_sh 3)) (SV.sp (SV_sh 7)))) (SV.sp (SV_sh 4))) (STw_and1 (ST_gt (SV.sp (SV_len rfl T.b_len (SA_cons (SV.sp (SV_sh 6)) SA_nil))) (SV.sp SV_int)))))) (SSs_cons (SS_ret (SV.se (SV_sh 6))) <|
    SSs_nil) (SSs_nil)) <|
    SSs_cons (SS_if (ST.su (STw.st (STw_and (ST_gt (SV.sp (SV_at u (SV.sp (SV_sh 3)) (SV.sp (SV_sh 7)))) (SV.sp (SV_sh 4))) (STw_and1 (ST_notIn u (SV.sp (SV_at u (SV.sp (SV_sh 3)) (SV.sp (SV_sh 7)))) (SV.sp (SV_sh 6))))))) (SSs_cons (SS_expr (SE_append 5 (SV.se (SV.frz (SV_plus (SV.sp (SV_sh 6)) (SV.sp (SV_tup (SA_cons (SV.sp (SV_at u (SV.sp (SV_sh 3)) (SV.sp (SV_sh 7)))) SA_nil)))))))) <|
    SSs_nil) (SSs_nil)) <|
    SSs_nil)) <|
    SSs_nil)) <|
    SSs_nil)) <|
    SSs_cons (SS_ret (SV.se SV_non)) <|
    SSs_nil
/-! turn_for: slots 0 lists, 1 got, 2 left, 3 order, 4 free, 5 good, 6 one, 7 thing; owned: ['left', 'order'] -/
noncomputable def g_turn_for : En → RS :=
    sCons (sPar 2 3 (nCons (pE (bLstR (rg1 (bN oLen (aCons (bSh 0) (aNil)))))) (nCons (pE (bLst (aNil))) (nNil)))) <|
    sCons (whl (uT (bT (b2 oNe (bVar 2) (bLst (aNil))))) (sCons (sSet 4 (pE (bFrz (bLc [6] (jOwn 2) (gN 6) (bYes) (b2 oAt (bSh 1) (bSh 6)))))) <|
    sCons (sSet 5 (pE (bFrz (bLc [6] (jOwn 2) (gN 6) (bT (b2 oEq (b2 oAt (bLc [7] (jSeq (b2 oAt (bSh 0) (bSh 6))) (gN 7) (bT (b2 oIn (bSh 7) (bSh 4))) (bSh 7)) (bC (.int 0))) (b2 oAt (bSh 1) (bSh 6)))) (bSh 6))))) <|
    sCons (sIf (uT (bT (b2 oEq (bSh 5) (bLst (aNil))))) (sCons (sRet (pE (bC .non))) <|
    sNil) (sNil)) <|
    sCons (sExpr (eApp 3 (pE (b2 oAt (bSh 5) (bC (.int 0)))))) <|
    sCons (sExpr (eRem 2 (b2 oAt (bSh 5) (bC (.int 0))))) <|
    sNil) fuelW) <|
    sCons (sRet (pE (bN oTuple (aCons (bVar 3) (aNil))))) <|
    sNil
noncomputable def T_turn_for : List O → RC := fnT 2 8 [] g_turn_for
theorem sc_turn_for : FnScope ["lists", "got", "left", "order", "free", "good", "one", "thing"] ["lists", "got"] (defScope s_turn_for) := ⟨rfl, rfl, rfl, by decide +kernel, rfl, by decide +kernel, by decide +kernel⟩
theorem ok_turn_for (T : Txt K mg W A) : FnOk P w K mg base (L2.CX P w) 1 A.f_turn_for A.d_turn_for ["lists", "got"] (spC W 2 [] T_turn_for) :=
  fn_ok T.F_turn_for sc_turn_for rfl rfl (by decide) (by decide) fun cdv Ar outer s H E hr => by
    have u : (Ar.deeper (PyProof.Rows.envOfC "turn_for" (defScope s_turn_for) s.heap.objs.size A.f_turn_for cdv)).units + 65 < cLine := by have := hr.un; omega
    have HN := sc_turn_for.nd
    exact SSs_cons (SS_par 2 3 rfl HN (SN_cons (SV.se (SV_listR rfl rfl T.b_list (SR_1 rfl T.b_range (SV.sp (SV_len rfl T.b_len (SA_cons (SV.sp (SV_sh 0)) SA_nil)))))) (SN_cons (SV.se (SV_lst SA_nil)) SN_nil))) <|
    SSs_cons (SS_while fuelW (passes_of rfl) (ST.su (ST_ne u (SP_var 2) (SV.sp (SV_lst SA_nil)))) (SSs_cons (SS_set 4 HN (SV.se (SV.frz (SV_lc [("one", 6)] rfl HN (SJk_own 2) (blkOk_by rfl) (fun _ _ _ _ _ => (SG_name 6 HN (not_outs (by decide)))) (fun _ _ _ _ _ => STs_nil) (fun _ _ _ _ _ => (SV_at u (SV.sp (SV_sh 1)) (SV.sp (SV_sh 6)))))))) <|
    SSs_cons (SS_setLcP 5 true [("one", 6)] rfl HN (SJk_own 2) (blkOk_by rfl) (fun _ _ _ _ _ => (SG_name 6 HN (not_outs (by decide)))) (fun _ _ _ _ _ => (STs_one (ST_eq u (SV.sp (SV_at u (SV.sp (SV_lc [("thing", 7)] rfl HN (SJ.k (SJ_seq (SV.sp (SV_at u (SV.sp (SV_sh 0)) (SV.sp (SV_sh 6)))))) (blkOk_by rfl) (fun _ _ _ _ _ => (SG_name 7 HN (not_outs (by decide)))) (fun _ _ _ _ _ => (STs_one (ST_in u (SV.sp (SV_sh 7)) (SV.sp (SV_sh 4))))) (fun _ _ _ _ _ => (SV_sh 7)))) (SV.sp SV_int))) (SV.sp (SV_at u (SV.sp (SV_sh 1)) (SV.sp (SV_sh 6))))))) (fun _ _ _ _ _ => (SV_sh 6))) <|
    SSs_cons (SS_if (ST.su (ST_eq u (SV.sp (SV_sh 5)) (SV.sp (SV_lst SA_nil)))) (SSs_cons (SS_ret (SV.se SV_non)) <|
    SSs_nil) (SSs_nil)) <|
    SSs_cons (SS_expr (SE_append 3 (SV.se (SV_at u (SV.sp (SV_sh 5)) (SV.sp SV_int))))) <|
    SSs_cons (SS_expr (SE_remove 2 rfl (takes_of rfl rfl rfl rfl) (SV.sp (SV_at u (SV.sp (SV_sh 5)) (SV.sp SV_int))))) <|
    SSs_nil)) <|
    SSs_cons (SS_ret (SV.se (SV_tuple rfl T.b_tuple (SA_cons (SP_var 3) SA_nil)))) <|
    SSs_nil
/-! law: slots 0 _law_script, 1 _law_dice_here, 2 _law_many, 3 _law_lists, 4 _law_order, 5 _law_some, 6 _law_taken, 7 _law_got, 8 _law_k, 9 _law_left, 10 _law_ways, 11 _law_by_turns, 12 _law_way, 13 _law_tight, 14 _law_ring, 15 _law_turn, 16 _law_after, 17 _law_place, 18 _law_thing, 19 _law_other; owned: ['_law_after', '_law_dice_here'] -/
noncomputable def g_law : En → RS :=
    sCons (sForO (pE (bCall T__law_rounds (aCons (bSh 0) (aCons (bC (.int 1)) (aNil))))) 1 (sCons (sSet 2 (eFrz (eOp2 oPlus (pE (bC (.int 1))) (eCall T__law_roll [(1, 0)] (nLend 1 (nCons (pE (bC (.int 4))) (nNil))))))) <|
    sCons (sAsgG (gT (gsCons (gN 3) (gsCons (gN 4) (gsNil)))) (eTup (nCons (eFrz (eLc [8] (iJ (jRange1 (bSh 2))) (gN 8) (uYes) (eFrz (eCall T__law_full [(1, 0)] (nLend 1 (nCons (pE (bSh 2)) (nNil))))))) (nCons (eFrz (eCall T__law_full [(1, 0)] (nLend 1 (nCons (pE (bSh 2)) (nNil))))) (nNil))))) <|
    sCons (sAsgG (gT (gsCons (gN 5) (gsCons (gN 6) (gsNil)))) (eTup (nCons (eFrz (eLc [8] (iJ (jRange1 (bSh 2))) (gN 8) (uYes) (eFrz (eCall T__law_list [(1, 0)] (nLend 1 (nCons (pE (bSh 2)) (nNil))))))) (nCons (pE (bFrz (bLst (aNil)))) (nNil))))) <|
    sCons (sSet 7 (pE (bFrz (bCall T_in_turn (aCons (bSh 5) (aCons (bSh 4) (aNil))))))) <|
    sCons (sFor (iJ (jSeq (bSh 4))) (gN 8) (sCons (sSet 9 (pE (bFrz (bLc [18] (jSeq (b2 oAt (bSh 5) (bSh 8))) (gN 18) (bT (b2 oNotIn (bSh 18) (bSh 6))) (bSh 18))))) <|
    sCons (sIf (uT (bT (b2 oNe (b2 oAt (bSh 7) (bSh 8)) (bIf (bT (b2 oNe (bSh 9) (bLst (aNil)))) (b2 oAt (bSh 9) (bC (.int 0))) (bC .non))))) (sCons (sRet (pE (bC (.bl false)))) <|
    sNil) (sNil)) <|
    sCons (sSet 6 (pE (bFrz (b2 oPlus (bSh 6) (bSl (bSh 9) pNo (pI (bC (.int 1)))))))) <|
    sNil)) <|
    sCons (sSet 10 (pE (bFrz (bCall (T_all_ways 6) (aCons (bTupR (rg1 (bSh 2))) (aNil)))))) <|
    sCons (sSet 11 (pE (bFrz (bLc [12] (jSeq (bSh 10)) (gN 12) (bYes) (bFrz (bCall T_in_turn (aCons (bSh 3) (aCons (bSh 12) (aNil))))))))) <|
    sCons (sFor (iE (eFrz (eSl (eSlLo (bSh 10) (eCall T__law_roll [(1, 0)] (nLend 1 (nCons (pE (bC (.int 3))) (nNil))))) pNo (pI (bC (.int 8)))))) (gN 12) (sCons (sSet 13 (pE (b2 oEq (bLc [19] (jSeq (bSh 10)) (gN 19) (bAnd (bT (b2 oNe (bSh 19) (bSh 12))) (bT (b2 oEq (bLc [8] (jRange1 (bSh 2)) (gN 8) (bT (b2 oGt (bIdx (b2 oAt (bSh 3) (bSh 8)) (b2 oAt (bSh 19) (bSh 8))) (bIdx (b2 oAt (bSh 3) (bSh 8)) (b2 oAt (bSh 12) (bSh 8))))) (bSh 8)) (bLst (aNil))))) (bSh 19)) (bLst (aNil))))) <|
    sCons (sPar 14 15 (nCons (pE (bFrz (bCall T_improved (aCons (bSh 3) (aCons (bSh 12) (aNil)))))) (nCons (pE (bFrz (bCall T_turn_for (aCons (bSh 3) (aCons (bSh 12) (aNil)))))) (nNil)))) <|
    sCons (sIf (uT (bOr (bT (b2 oNe (b2 oIs (bSh 14) (bC .non)) (bSh 13))) (bOr (bT (b2 oNe (b2 oIn (bSh 12) (bSh 11)) (bSh 13))) (bT (b2 oEq (b2 oIs (bSh 15) (bC .non)) (bSh 13)))))) (sCons (sRet (pE (bC (.bl false)))) <|
    sNil) (sNil)) <|
    sCons (sIf (uT (bAnd (bT (b2 oIsNot (bSh 15) (bC .non))) (bT (b2 oNe (bCall T_in_turn (aCons (bSh 3) (aCons (bSh 15) (aNil)))) (bSh 12))))) (sCons (sRet (pE (bC (.bl false)))) <|
    sNil) (sNil)) <|
    sCons (sIf (uT (bT (b2 oIsNot (bSh 14) (bC .non)))) (sCons (sSet 16 (pE (bN oList (aCons (bSh 12) (aNil))))) <|
    sCons (sFor (iJ (jRange1 (bN oLen (aCons (bSh 14) (aNil))))) (gN 17) (sCons (sSetIx 16 (pE (b2 oAt (bSh 12) (b2 oAt (bSh 14) (b2 oMod (b2 oPlus (bSh 17) (bC (.int 1))) (bN oLen (aCons (bSh 14) (aNil))))))) (b2 oAt (bSh 14) (bSh 17))) <|
    sNil)) <|
    sCons (sIf (uT (bT (b2 oNe (bLc [8] (jSeq (bSh 14)) (gN 8) (bT (b2 oGe (bIdx (b2 oAt (bSh 3) (bSh 8)) (b2 oAt (bVar 16) (bSh 8))) (bIdx (b2 oAt (bSh 3) (bSh 8)) (b2 oAt (bSh 12) (bSh 8))))) (bSh 8)) (bLst (aNil))))) (sCons (sRet (pE (bC (.bl false)))) <|
    sNil) (sNil)) <|
    sCons (sIf (uT (bT (b2 oNe (bN oSorted (aCons (bVar 16) (aNil))) (bLstR (rg1 (bSh 2)))))) (sCons (sRet (pE (bC (.bl false)))) <|
    sNil) (sNil)) <|
    sNil) (sNil)) <|
    sNil)) <|
    sNil)) <|
    sCons (sRet (pE (bC (.bl true)))) <|
    sNil
noncomputable def T_law : List O → RC := fnT 1 20 [] g_law
theorem sc_law : FnScope ["_law_script", "_law_dice_here", "_law_many", "_law_lists", "_law_order", "_law_some", "_law_taken", "_law_got", "_law_k", "_law_left", "_law_ways", "_law_by_turns", "_law_way", "_law_tight", "_law_ring", "_law_turn", "_law_after", "_law_place", "_law_thing", "_law_other"] ["_law_script"] (defScope s_law) := ⟨rfl, rfl, rfl, by decide +kernel, rfl, by decide +kernel, by decide +kernel⟩
theorem ok_law (T : Txt K mg W A) : FnOk P w K mg base (L2.CX P w) 8 A.f_law A.d_law ["_law_script"] (spC W 1 [] T_law) :=
  fn_ok T.F_law sc_law rfl rfl (by decide) (by decide) fun cdv Ar outer s H E hr => by
    have u : (Ar.deeper (PyProof.Rows.envOfC "law" (defScope s_law) s.heap.objs.size A.f_law cdv)).units + 65 < cLine := by have := hr.un; omega
    have HN := sc_law.nd
    exact SSs_cons (SS_forO 1 (passes_of rfl) rfl HN (SV.se (SV_call (ok__law_rounds T) fnT_len (hr.mono (by decide)) rfl T.m__law_rounds T.F__law_rounds.kp T.B__law_rounds (takes_of rfl rfl rfl rfl) (SA_cons (SV.sp (SV_sh 0)) (SA_cons (SV.sp SV_int) SA_nil)))) (SSs_cons (SS_set 2 HN (SE.frz (SE_plus (SV.se SV_int) (SE_call (ks := [some 1, none]) [(1, 0)] (ok__law_roll T) fnT_len (hr.mono (by decide)) rfl T.m__law_roll T.F__law_roll.kp T.B__law_roll (takes_of rfl rfl rfl rfl) (SN_lend 1 (SN_cons (SV.se SV_int) SN_nil)))))) <|
    SSs_cons (SS_asgG (SE_tup (SN_cons (SE.frz (SE_lc [("_law_k", 8)] rfl HN (SJ.si (SJ_range1 rfl T.b_range (SV.sp (SV_sh 2)))) (blkOk_by rfl) (fun _ _ _ _ _ => (SG_name 8 HN (not_outs (by decide)))) (fun _ _ _ _ _ => SUs_nil) (fun _ _ _ _ _ => (SE.frz (SE_call (ks := [some 1, none]) [(1, 0)] (ok__law_full T) fnT_len (hr.mono (by decide)) rfl T.m__law_full T.F__law_full.kp T.B__law_full takes0 (SN_lend 1 (SN_cons (SV.se (SV_sh 2)) SN_nil))))))) (SN_cons (SE.frz (SE_call (ks := [some 1, none]) [(1, 0)] (ok__law_full T) fnT_len (hr.mono (by decide)) rfl T.m__law_full T.F__law_full.kp T.B__law_full (takes_of rfl rfl rfl rfl) (SN_lend 1 (SN_cons (SV.se (SV_sh 2)) SN_nil)))) SN_nil))) (SG_tup rfl (SGs_cons (SG_name 3 HN) (SGs_cons (SG_name 4 HN) SGs_nil)))) <|
    SSs_cons (SS_asgG (SE_tup (SN_cons (SE.frz (SE_lc [("_law_k", 8)] rfl HN (SJ.si (SJ_range1 rfl T.b_range (SV.sp (SV_sh 2)))) (blkOk_by rfl) (fun _ _ _ _ _ => (SG_name 8 HN (not_outs (by decide)))) (fun _ _ _ _ _ => SUs_nil) (fun _ _ _ _ _ => (SE.frz (SE_call (ks := [some 1, none]) [(1, 0)] (ok__law_list T) fnT_len (hr.mono (by decide)) rfl T.m__law_list T.F__law_list.kp T.B__law_list takes0 (SN_lend 1 (SN_cons (SV.se (SV_sh 2)) SN_nil))))))) (SN_cons (SV.se (SV.frz (SV_lst SA_nil))) SN_nil))) (SG_tup rfl (SGs_cons (SG_name 5 HN) (SGs_cons (SG_name 6 HN) SGs_nil)))) <|
    SSs_cons (SS_set 7 HN (SV.se (SV.frz (SV_call (ok_in_turn T) fnT_len (hr.mono (by decide)) rfl T.m_in_turn T.F_in_turn.kp T.B_in_turn (takes_of rfl rfl rfl rfl) (SA_cons (SV.sp (SV_sh 5)) (SA_cons (SV.sp (SV_sh 4)) SA_nil)))))) <|
    SSs_cons (SS_for (passes_of rfl) rfl (SJ.si (SJ_seq (SV.sp (SV_sh 4)))) (SG_name 8 HN) (SSs_cons (SS_setLcP 9 true [("_law_thing", 18)] rfl HN (SJ.k (SJ_seq (SV.sp (SV_at u (SV.sp (SV_sh 5)) (SV.sp (SV_sh 8)))))) (blkOk_by rfl) (fun _ _ _ _ _ => (SG_name 18 HN (not_outs (by decide)))) (fun _ _ _ _ _ => (STs_one (ST_notIn u (SV.sp (SV_sh 18)) (SV.sp (SV_sh 6))))) (fun _ _ _ _ _ => (SV_sh 18))) <|
    SSs_cons (SS_if (ST.su (ST_ne u (SV.sp (SV_at u (SV.sp (SV_sh 7)) (SV.sp (SV_sh 8)))) (SV.sp (SV_if (ST_ne u (SV.sp (SV_sh 9)) (SV.sp (SV_lst SA_nil))) (SV_at u (SV.sp (SV_sh 9)) (SV.sp SV_int)) SV_non)))) (SSs_cons (SS_ret (SV.se SV_bl)) <|
    SSs_nil) (SSs_nil)) <|
    SSs_cons (SS_set 6 HN (SV.se (SV.frz (SV_plus (SV.sp (SV_sh 6)) (SV.sp (SV_slice (SV.sp (SV_sh 9)) SO_no (SO_some (SV.sp SV_int)))))))) <|
    SSs_nil)) <|
    SSs_cons (SS_set 10 HN (SV.se (SV.frz (SV_call (ok_all_ways T 6) (len_all_ways 6) (hr.mono (by decide)) rfl T.m_all_ways T.F_all_ways.kp T.B_all_ways (takes_of rfl rfl rfl rfl) (SA_cons (SV.sp (SV_tupR rfl rfl T.b_tuple (SR_1 rfl T.b_range (SV.sp (SV_sh 2))))) SA_nil))))) <|
    SSs_cons (SS_setLcP 11 true [("_law_way", 12)] rfl HN (SJ.k (SJ_seq (SV.sp (SV_sh 10)))) (blkOk_by rfl) (fun _ _ _ _ _ => (SG_name 12 HN (not_outs (by decide)))) (fun _ _ _ _ _ => STs_nil) (fun _ _ _ _ _ => (SV.frz (SV_call (ok_in_turn T) fnT_len (hr.mono (by decide)) rfl T.m_in_turn T.F_in_turn.kp T.B_in_turn takes0 (SA_cons (SV.sp (SV_sh 3)) (SA_cons (SV.sp (SV_sh 12)) SA_nil)))))) <|
    SSs_cons (SS_for (passes_of rfl) rfl (SI_e (SE.frz (SE_slice (SE_sliceLo (SV.sp (SV_sh 10)) (SE_call (ks := [some 1, none]) [(1, 0)] (ok__law_roll T) fnT_len (hr.mono (by decide)) rfl T.m__law_roll T.F__law_roll.kp T.B__law_roll (takes_of rfl rfl rfl rfl) (SN_lend 1 (SN_cons (SV.se SV_int) SN_nil)))) SO_no (SO_some (SV.sp SV_int))))) (SG_name 12 HN) (SSs_cons (SS_set 13 HN (SV.se (SV_eq u (SV.sp (SV_lc [("_law_other", 19)] rfl HN (SJ.k (SJ_seq (SV.sp (SV_sh 10)))) (blkOk_by rfl) (fun _ _ _ _ _ => (SG_name 19 HN (not_outs (by decide)))) (fun _ _ _ _ _ => (STs_one (STw.st (STw_and (ST_ne u (SV.sp (SV_sh 19)) (SV.sp (SV_sh 12))) (STw_and1 (ST_eq u (SV.sp (SV_lc [("_law_k", 8)] rfl HN (SJ.k (SJ_range1 rfl T.b_range (SV.sp (SV_sh 2)))) (blkOk_by rfl) (fun _ _ _ _ _ => (SG_name 8 HN (not_outs (by decide)))) (fun _ _ _ _ _ => (STs_one (ST_gt (SV.sp (SV_idx u (SV.sp (SV_at u (SV.sp (SV_sh 3)) (SV.sp (SV_sh 8)))) (SV.sp (SV_at u (SV.sp (SV_sh 19)) (SV.sp (SV_sh 8)))))) (SV.sp (SV_idx u (SV.sp (SV_at u (SV.sp (SV_sh 3)) (SV.sp (SV_sh 8)))) (SV.sp (SV_at u (SV.sp (SV_sh 12)) (SV.sp (SV_sh 8))))))))) (fun _ _ _ _ _ => (SV_sh 8)))) (SV.sp (SV_lst SA_nil)))))))) (fun _ _ _ _ _ => (SV_sh 19)))) (SV.sp (SV_lst SA_nil))))) <|
    SSs_cons (SS_par 14 15 rfl HN (SN_cons (SV.se (SV.frz (SV_call (ok_improved T) fnT_len (hr.mono (by decide)) rfl T.m_improved T.F_improved.kp T.B_improved (takes_of rfl rfl rfl rfl) (SA_cons (SV.sp (SV_sh 3)) (SA_cons (SV.sp (SV_sh 12)) SA_nil))))) (SN_cons (SV.se (SV.frz (SV_call (ok_turn_for T) fnT_len (hr.mono (by decide)) rfl T.m_turn_for T.F_turn_for.kp T.B_turn_for (takes_of rfl rfl rfl rfl) (SA_cons (SV.sp (SV_sh 3)) (SA_cons (SV.sp (SV_sh 12)) SA_nil))))) SN_nil))) <|
    SSs_cons (SS_if (ST.su (STw.st (STw_or (ST_ne u (SV.sp (SV_is (SV.sp (SV_sh 14)) (SV.sp SV_non))) (SV.sp (SV_sh 13))) (STw_or (ST_ne u (SV.sp (SV_in u (SV.sp (SV_sh 12)) (SV.sp (SV_sh 11)))) (SV.sp (SV_sh 13))) (STw_or1 (ST_eq u (SV.sp (SV_is (SV.sp (SV_sh 15)) (SV.sp SV_non))) (SV.sp (SV_sh 13)))))))) (SSs_cons (SS_ret (SV.se SV_bl)) <|
    SSs_nil) (SSs_nil)) <|
    SSs_cons (SS_if (ST.su (STw.st (STw_and (ST_isNot (SV.sp (SV_sh 15)) (SV.sp SV_non)) (STw_and1 (ST_ne u (SV.sp (SV_call (ok_in_turn T) fnT_len (hr.mono (by decide)) rfl T.m_in_turn T.F_in_turn.kp T.B_in_turn (takes_of rfl rfl rfl rfl) (SA_cons (SV.sp (SV_sh 3)) (SA_cons (SV.sp (SV_sh 15)) SA_nil)))) (SV.sp (SV_sh 12))))))) (SSs_cons (SS_ret (SV.se SV_bl)) <|
    SSs_nil) (SSs_nil)) <|
    SSs_cons (SS_if (ST.su (ST_isNot (SV.sp (SV_sh 14)) (SV.sp SV_non))) (SSs_cons (SS_set 16 HN (SV.se (SV_list rfl T.b_list (SA_cons (SV.sp (SV_sh 12)) SA_nil)))) <|
    SSs_cons (SS_for (passes_of rfl) rfl (SJ.si (SJ_range1 rfl T.b_range (SV.sp (SV_len rfl T.b_len (SA_cons (SV.sp (SV_sh 14)) SA_nil))))) (SG_name 17 HN) (SSs_cons (SS_setIx 16 (SV.se (SV_at u (SV.sp (SV_sh 12)) (SV.sp (SV_at u (SV.sp (SV_sh 14)) (SV.sp (SV_mod (SV.sp (SV_plus (SV.sp (SV_sh 17)) (SV.sp SV_int))) (SV.sp (SV_len rfl T.b_len (SA_cons (SV.sp (SV_sh 14)) SA_nil))))))))) (SV.sp (SV_at u (SV.sp (SV_sh 14)) (SV.sp (SV_sh 17))))) <|
    SSs_nil)) <|
    SSs_cons (SS_if (ST.su (ST_ne u (SV.sp (SV_lc [("_law_k", 8)] rfl HN (SJ.k (SJ_seq (SV.sp (SV_sh 14)))) (blkOk_by rfl) (fun _ _ _ _ _ => (SG_name 8 HN (not_outs (by decide)))) (fun _ _ _ _ _ => (STs_one (ST_ge (SV.sp (SV_idx u (SV.sp (SV_at u (SV.sp (SV_sh 3)) (SV.sp (SV_sh 8)))) (SV.sp (SV_at u (SP_var 16) (SV.sp (SV_sh 8)))))) (SV.sp (SV_idx u (SV.sp (SV_at u (SV.sp (SV_sh 3)) (SV.sp (SV_sh 8)))) (SV.sp (SV_at u (SV.sp (SV_sh 12)) (SV.sp (SV_sh 8))))))))) (fun _ _ _ _ _ => (SV_sh 8)))) (SV.sp (SV_lst SA_nil)))) (SSs_cons (SS_ret (SV.se SV_bl)) <|
    SSs_nil) (SSs_nil)) <|
    SSs_cons (SS_if (ST.su (ST_ne u (SV.sp (SV_sorted rfl T.b_sorted (SA_cons (SP_var 16) SA_nil))) (SV.sp (SV_listR rfl rfl T.b_list (SR_1 rfl T.b_range (SV.sp (SV_sh 2))))))) (SSs_cons (SS_ret (SV.se SV_bl)) <|
    SSs_nil) (SSs_nil)) <|
    SSs_nil) (SSs_nil)) <|
    SSs_nil)) <|
    SSs_nil)) <|
    SSs_cons (SS_ret (SV.se SV_bl)) <|
    SSs_nil
end
end FD.K13


set_option Elab.async false
set_option linter.all false
set_option maxRecDepth 100000
set_option maxHeartbeats 4000000
/-! the typed layer of K13, printed by tgen.py -/
namespace FD.K13
open PySem L2 FD FD.Ty
/-! _law_dice: p0 _law_cell -/
noncomputable def t_law_dice (p0 : Int) : M (List Int) := finT (κ := Unit) (if (decide (((0 : Int) - (10 : Int)) < p0) && decide (p0 < (10 : Int))) then .rt ([(if p0 < 0 then -p0 else p0), (0 : Int), (2 : Int)] : List Int) else (.rt ([p0, ((1 : Int) + (p0 % (1009 : Int))), (if (decide ((1000000000000000000 : Int) ≤ p0)) = true then 1 else 0)] : List Int)))
theorem ref_t_law_dice (p0 : Int) : RF 0 (T__law_dice [(sh dI) p0]) (t_law_dice p0) (oL (sh dI)) (fun _ => []) := RF_fn (L := fun _ _ => False) rfl (SR_ifrp (EG_bT (EG_chainp (a := decide (((0 : Int) - (10 : Int)) < p0)) (b := decide (p0 < (10 : Int))) (EG.unit (EG_b2 (EG.bindp (EG.of (e := (sh dI)) (v := (0 : Int)) rfl) (EG.bindp (EG.of (e := (sh dI)) (v := (10 : Int)) rfl) (EG.of (e := sh dI) (v := (0 : Int) - (10 : Int)) rfl))))) (EG.unit (EG_sh (d := dI) (v := p0) rfl)) (EG.unit (EG.of (e := (sh dI)) (v := (10 : Int)) rfl)) rfl rfl)) (EX_pE (EG.cop (fun _ => ([(if p0 < 0 then -p0 else p0), (0 : Int), (2 : Int)] : List Int)) (oL (sh dI)) (EG_bLst (k := 3) (EG_consp (EG_bNp (EG_consp (EG_sh (d := dI) (v := p0) rfl) EG_nil) (EG.of (e := sh dI) (v := if p0 < 0 then -p0 else p0) rfl)) (EG_consp (EG.of (e := (sh dI)) (v := (0 : Int)) rfl) (EG_consp (EG.of (e := (sh dI)) (v := (2 : Int)) rfl) EG_nil))) (fun _ => rfl) (fun _ => rfl) (by decide)) (fun _ => rfl))) rfl (SR_retp (w := ([p0, ((1 : Int) + (p0 % (1009 : Int))), (if (decide ((1000000000000000000 : Int) ≤ p0)) = true then 1 else 0)] : List Int)) (EX.co (t := R.ok ()) (fun _ => ([p0, ((1 : Int) + (p0 % (1009 : Int))), (if (decide ((1000000000000000000 : Int) ≤ p0)) = true then 1 else 0)] : List Int)) (oL (sh dI)) (fun _ => [some ((sh dI) p0)]) (EX_eLst (k := 3) (EX_consp (x := p0) (EX_pE (EG_sh (d := dI) (v := p0) rfl)) (EX_consp (x := ((1 : Int) + (p0 % (1009 : Int)))) (EX_pE (EG.frz (r := R.stk) (EG_b2 (EG.bindp (EG.of (e := (sh dI)) (v := (1 : Int)) rfl) (EG.bindp (EG_b2 (EG.bindp (EG_bNp (EG_consp (EG_sh (d := dI) (v := p0) rfl) EG_nil) (EG.of (e := sh dI) (v := p0) rfl)) (EG.bindp (EG.of (e := (sh dI)) (v := (1009 : Int)) rfl) (op_modc p0 (by decide))))) (EG.of (e := sh dI) (v := (1 : Int) + (p0 % (1009 : Int))) rfl)))) (fz_sh (d := dI)))) (EX_consp (x := (if (decide ((1000000000000000000 : Int) ≤ p0)) = true then 1 else 0)) (EX_pE (EG_bNp (EG_consp (EG_b2 (EG.bindp (EG_sh (d := dI) (v := p0) rfl) (EG.bindp (EG_b2 (EG.bindp (EG.of (e := (sh dI)) (v := (10 : Int)) rfl) (EG.bindp (EG.of (e := (sh dI)) (v := (18 : Int)) rfl) (EG.of (e := sh dI) (v := (1000000000000000000 : Int)) rfl)))) (EG.of (e := sh dB) (v := decide ((1000000000000000000 : Int) ≤ p0)) rfl)))) EG_nil) (EG.of (e := sh dI) (v := if (decide ((1000000000000000000 : Int) ≤ p0)) = true then 1 else 0) rfl))) EX_nil))) (fun _ => rfl) (by decide)) (fun _ => rfl) (fun _ => rfl)) rfl))
/-! _law_rounds: p0 _law_script, p1 _law_most_now -/
noncomputable def t_law_rounds (p0 : (List Int)) (p1 : Int) : M (List (List Int)) := finT (κ := Unit) (thn (R.ok (cutG p0 (none : Option Int) (some p1))) fun x1 => (sq (if (decide (x1 = ([] : List Int))) then (thn (R.ok ([(0 : Int)] : List Int)) fun x3 => (.nx x3)) else (.nx x1)) fun s4 => (thn (grd (szOk s4.length) (lcM (fun a5 => (R.ok true)) (fun a5 => (t_law_dice a5)) s4) R.stk) fun x7 => .rt x7)))
theorem ref_t_law_rounds (p0 : (List Int)) (p1 : Int) : RF 0 (T__law_rounds [(sh (dF dI)) p0, (sh dI) p1]) (t_law_rounds p0 p1) (oL (oL (sh dI))) (fun _ => []) := RF_fn (L := fun _ _ => False) rfl (SR_set (t := R.ok (cutG p0 (none : Option Int) (some p1))) (EX_pE (EG.frz (r := R.stk) (EG_bSlS (EG.bindp (EG_sh (d := (dF dI)) (v := p0) rfl) (EG.bindp (EG.of (e := id) (v := none) rfl) (EG.bindp (EG.cop some id (EG_pI (EG_sh (d := dI) (v := p1) rfl)) (fun _ => rfl)) (op_slS dI p0 (none : Option Int) (some p1)))))) (fz_oL (fz_sh (d := dI))))) fun x1 => (SR_ifp (B := (fun (s : (List Int)) (env : En) => env = [some ((sh (dF dI)) p0), some ((sh dI) p1), some ((sh (dL dI)) s), none])) (EG_bT (EG_b2 (EG.bindp (EG_sh (d := (dL dI)) (v := x1) rfl) (EG.bindp (EG.cop (fun _ => ([] : List Int)) (oL (sh dI)) (EG_bLst (k := 0) EG_nil (fun _ => rfl) (fun _ => rfl) (by decide)) (fun _ => rfl)) (op_eq (a := x1) (b := ([] : List Int)) (EqD_lst EqD_int) ((fz_sh (d := (dL dI))) _) ((fz_oL (fz_sh (d := dI))) _)))))) (SR_set (t := R.ok ([(0 : Int)] : List Int)) (EX_pE (EG.frz (r := R.stk) (EG.cop (fun _ => ([(0 : Int)] : List Int)) (oL (sh dI)) (EG_bLst (k := 1) (EG_consp (EG.of (e := (sh dI)) (v := (0 : Int)) rfl) EG_nil) (fun _ => rfl) (fun _ => rfl) (by decide)) (fun _ => rfl)) (fz_oL (fz_sh (d := dI))))) fun x3 => (SR_nil (s := (x3 : (List Int))) rfl)) (SR_nil (s := (x1 : (List Int))) rfl) (fun s4 e8 he => by subst he; exact (SR_ret (w := fun x7 => x7) (EX_pE (EG_lcmp (EG_jLst (EG_sh (d := (dL dI)) (v := s4) rfl)) fun a5 => ⟨_, rfl, (EG.of (e := id) rfl), (EG_callp (EG_consp (EG_sh (d := dI) (v := a5) rfl) EG_nil) rfl (ref_t_law_dice a5))⟩)) (fun _ => rfl)))))
/-! _law_roll: p0 _law_dice_here, p1 _law_many -/
noncomputable def t_law_roll (p0 : (List Int)) (p1 : Int) : M (Int × (List Int)) := finX (κ := Unit) (thn (R.bind (R.bind (atM p0 (2 : Int)) fun x1 => R.ok (decide (x1 = (2 : Int)))) fun b => grd b (R.ok true) (R.bind (R.bind (atM p0 (2 : Int)) fun x2 => R.ok (decide (x2 = (1 : Int)))) fun b => grd b (R.bind (atM p0 (0 : Int)) fun x3 => R.ok (decide ((0 : Int) < x3))) (R.ok false))) fun b => if b then (sq (thn (R.bind (R.bind (atM p0 (0 : Int)) fun x4 => (R.ok x4)) fun x5 => (modM x5 p1)) fun x6 => (thn (R.bind (atM p0 (0 : Int)) fun x7 => (divM x7 p1)) fun x8 => thn (setM p0 (0 : Int) x8) fun l9 => (.rt (x6, l9)))) fun (z : Empty) => z.elim) else (thn (setM p0 (2 : Int) (0 : Int)) fun l11 => (thn (R.bind (R.bind (R.bind (R.bind (R.bind (atM l11 (0 : Int)) fun x12 => R.ok (x12 * (48271 : Int))) fun x14 => (R.bind (R.bind (atM l11 (1 : Int)) fun x13 => R.ok (x13 * (69621 : Int))) fun x15 => R.ok (x14 + x15))) fun x16 => R.ok (x16 + (11 : Int))) fun x17 => (R.ok x17)) fun x18 => R.ok (x18 % (2147483647 : Int))) fun x19 => thn (setM l11 (0 : Int) x19) fun l20 => (thn (R.bind (atM l20 (1 : Int)) fun x21 => R.ok (x21 + (1 : Int))) fun x22 => thn (setM l20 (1 : Int) x22) fun l23 => (thn (R.bind (R.bind (R.bind (R.bind (atM l23 (0 : Int)) fun x24 => R.ok (x24 / (7 : Int))) fun x25 => (R.bind (atM l23 (0 : Int)) fun x26 => R.ok (x25 + x26))) fun x27 => (R.ok x27)) fun x28 => (modM x28 p1)) fun x29 => .rt (x29, l23))))))
theorem ref_t_law_roll (p0 : (List Int)) (p1 : Int) : RF 1 (T__law_roll [(oL (sh dI)) p0, (sh dI) p1]) (t_law_roll p0 p1) (fun v => (sh dI) v.1) (fun v => [(oL (sh dI)) v.2]) := RF_fnX (L := fun _ _ => False) rfl (SR_ifl (EG_or (EG_bT (EG_b2 (EG.bind (EG_b2 (EG.bindp (EG_var (e := (oL (sh dI))) (v := p0) rfl) (EG.bindp (EG.of (e := (sh dI)) (v := (2 : Int)) rfl) (op_at (itD_own dI _))))) fun x1 => (EG.bindp (EG.of (e := (sh dI)) (v := (2 : Int)) rfl) (op_eq (a := x1) (b := (2 : Int)) EqD_int ((fz_sh (d := dI)) _) ((fz_sh (d := dI)) _)))))) (EG_and (EG_bT (EG_b2 (EG.bind (EG_b2 (EG.bindp (EG_var (e := (oL (sh dI))) (v := p0) rfl) (EG.bindp (EG.of (e := (sh dI)) (v := (2 : Int)) rfl) (op_at (itD_own dI _))))) fun x2 => (EG.bindp (EG.of (e := (sh dI)) (v := (1 : Int)) rfl) (op_eq (a := x2) (b := (1 : Int)) EqD_int ((fz_sh (d := dI)) _) ((fz_sh (d := dI)) _)))))) (EG_bT (EG_b2 (EG.bind (EG_b2 (EG.bindp (EG_var (e := (oL (sh dI))) (v := p0) rfl) (EG.bindp (EG.of (e := (sh dI)) (v := (0 : Int)) rfl) (op_at (itD_own dI _))))) fun x3 => (EG.bindp (EG.of (e := (sh dI)) (v := (0 : Int)) rfl) (EG.of (e := sh dB) (v := decide ((0 : Int) < x3)) rfl))))))) (SR_set (EX_pE (EG_b2 (EG.bind (EG_bN (EG_consm (γ := Unit) (u := ()) (EG_b2 (EG.bindp (EG_var (e := (oL (sh dI))) (v := p0) rfl) (EG.bindp (EG.of (e := (sh dI)) (v := (0 : Int)) rfl) (op_at (itD_own dI _))))) EG_nil) fun x4 => (EG.of (e := sh dI) (v := x4) rfl)) fun x5 => (EG.bindp (EG_sh (d := dI) (v := p1) rfl) (op_mod x5 p1))))) fun x6 => (SR_setIxj (j := fun x8 => (0 : Int)) (x := fun x8 => x8) (l := fun x8 => p0) (e := (sh dI)) (EX_pE (EG_b2 (EG.bind (EG_b2 (EG.bindp (EG_var (e := (oL (sh dI))) (v := p0) rfl) (EG.bindp (EG.of (e := (sh dI)) (v := (0 : Int)) rfl) (op_at (itD_own dI _))))) fun x7 => (EG.bindp (EG_sh (d := dI) (v := p1) rfl) (op_div x7 p1))))) (fun _ => rfl) (fun x8 => (EG.of (e := (sh dI)) (v := (0 : Int)) rfl)) (fun _ => rfl) fun x8 l9 => (SR_retp (w := (x6, l9)) (EX_pE (EG_sh (d := dI) (v := x6) rfl)) ⟨rfl, rfl⟩))) (SR_setIx (x := (0 : Int)) (l := p0) (e := (sh dI)) (EX_pE (EG.of (e := (sh dI)) (v := (0 : Int)) rfl)) rfl (EG.of (e := (sh dI)) (v := (2 : Int)) rfl) rfl fun l11 => (SR_setIxj (j := fun x19 => (0 : Int)) (x := fun x19 => x19) (l := fun x19 => l11) (e := (sh dI)) (EX_pE (EG_b2 (EG.bind (EG_bN (EG_consm (γ := Unit) (u := ()) (EG_b2 (EG.bind (EG_b2 (EG.bind (EG_b2 (EG.bind (EG_b2 (EG.bindp (EG_var (e := (oL (sh dI))) (v := l11) rfl) (EG.bindp (EG.of (e := (sh dI)) (v := (0 : Int)) rfl) (op_at (itD_own dI _))))) fun x12 => (EG.bindp (EG.of (e := (sh dI)) (v := (48271 : Int)) rfl) (op_mulc x12 (okI_of (by decide) (by decide)))))) fun x14 => (EG.bind (EG_b2 (EG.bind (EG_b2 (EG.bindp (EG_var (e := (oL (sh dI))) (v := l11) rfl) (EG.bindp (EG.of (e := (sh dI)) (v := (1 : Int)) rfl) (op_at (itD_own dI _))))) fun x13 => (EG.bindp (EG.of (e := (sh dI)) (v := (69621 : Int)) rfl) (op_mulc x13 (okI_of (by decide) (by decide)))))) fun x15 => (EG.of (e := sh dI) (v := x14 + x15) rfl)))) fun x16 => (EG.bindp (EG.of (e := (sh dI)) (v := (11 : Int)) rfl) (EG.of (e := sh dI) (v := x16 + (11 : Int)) rfl)))) EG_nil) fun x17 => (EG.of (e := sh dI) (v := x17) rfl)) fun x18 => (EG.bindp (EG.of (e := (sh dI)) (v := (2147483647 : Int)) rfl) (op_modc x18 (by decide)))))) (fun _ => rfl) (fun x19 => (EG.of (e := (sh dI)) (v := (0 : Int)) rfl)) (fun _ => rfl) fun x19 l20 => (SR_setIxj (j := fun x22 => (1 : Int)) (x := fun x22 => x22) (l := fun x22 => l20) (e := (sh dI)) (EX_pE (EG.frz (r := R.stk) (EG_b2 (EG.bind (EG_b2 (EG.bindp (EG_var (e := (oL (sh dI))) (v := l20) rfl) (EG.bindp (EG.of (e := (sh dI)) (v := (1 : Int)) rfl) (op_at (itD_own dI _))))) fun x21 => (EG.bindp (EG.of (e := (sh dI)) (v := (1 : Int)) rfl) (EG.of (e := sh dI) (v := x21 + (1 : Int)) rfl)))) (fz_sh (d := dI)))) (fun _ => rfl) (fun x22 => (EG.of (e := (sh dI)) (v := (1 : Int)) rfl)) (fun _ => rfl) fun x22 l23 => (SR_ret (w := fun x29 => (x29, l23)) (EX_pE (EG_b2 (EG.bind (EG_bN (EG_consm (γ := Unit) (u := ()) (EG_b2 (EG.bind (EG_b2 (EG.bind (EG_b2 (EG.bindp (EG_var (e := (oL (sh dI))) (v := l23) rfl) (EG.bindp (EG.of (e := (sh dI)) (v := (0 : Int)) rfl) (op_at (itD_own dI _))))) fun x24 => (EG.bindp (EG.of (e := (sh dI)) (v := (7 : Int)) rfl) (op_divc x24 (okJ_of (by decide) (by decide)))))) fun x25 => (EG.bind (EG_b2 (EG.bindp (EG_var (e := (oL (sh dI))) (v := l23) rfl) (EG.bindp (EG.of (e := (sh dI)) (v := (0 : Int)) rfl) (op_at (itD_own dI _))))) fun x26 => (EG.of (e := sh dI) (v := x25 + x26) rfl)))) EG_nil) fun x27 => (EG.of (e := sh dI) (v := x27) rfl)) fun x28 => (EG.bindp (EG_sh (d := dI) (v := p1) rfl) (op_mod x28 p1))))) (fun _ => ⟨rfl, rfl⟩))))))
/-! _law_full: p0 _law_dice_here, p1 _law_many -/
noncomputable def t_law_full (p0 : (List Int)) (p1 : Int) : M ((List Int) × (List Int)) := finX (κ := Unit) (thn (R.bind (rngM (0 : Int) p1) fun x1 => R.bind (R.ok ()) fun v => R.ok (x1, v)) fun x4 => (sq (whT (fun (s14 : ((List Int) × (List Int) × (List Int))) => (R.ok (!decide (s14.2.1 = ([] : List Int))))) (fun (s14 : ((List Int) × (List Int) × (List Int))) => (thn (R.bind (t_law_roll s14.1 (s14.2.1.length : Int)) fun x17 => R.bind (atM s14.2.1 x17.1) fun x19 => R.ok (x19, x17.2)) fun x20 => (thn (appM s14.2.2 x20.1) fun x21 => (thn (remM s14.2.1 x20.1) fun x22 => (.nx (x20.2, x22, x21)))))) fuelW (p0, x4.1, ([] : List Int))) fun s24 => (.rt (s24.2.2, s24.1))))
theorem ref_t_law_full (p0 : (List Int)) (p1 : Int) : RF 1 (T__law_full [(oL (sh dI)) p0, (sh dI) p1]) (t_law_full p0 p1) (fun v => (sh (dT true dI)) v.1) (fun v => [(oL (sh dI)) v.2]) := RF_fnX (L := fun _ _ => False) rfl (SR_par (EX_cons (E2 := fun (w3 : ((List Int) × Unit)) => [some ((oL (sh dI)) p0), some ((sh dI) p1), none, none, none]) (EX_pE (EG_lstR (EG_rg1 (EG_sh (d := dI) (v := p1) rfl)))) fun x1 => (EX_consp (x := ([] : List Int)) (EX_pE (EG.cop (fun _ => ([] : List Int)) (oL (sh dI)) (EG_bLst (k := 0) EG_nil (fun _ => rfl) (fun _ => rfl) (by decide)) (fun _ => rfl))) EX_nil)) (fun _ => rfl) fun x4 => (SR_whl (s0 := (p0, x4.1, ([] : List Int))) (fun (s : ((List Int) × (List Int) × (List Int))) (env : En) => ∃ (j13 : Option O), env = [some ((oL (sh dI)) s.1), some ((sh dI) p1), some ((oL (sh dI)) s.2.1), some ((oL (sh dI)) s.2.2), j13]) ⟨_, rfl⟩ (fun s14 e23 he => by obtain ⟨j15, rfl⟩ := he; exact (EG_bT (EG_b2 (EG.bindp (EG_var (e := (oL (sh dI))) (v := s14.2.1) rfl) (EG.bindp (EG.cop (fun _ => ([] : List Int)) (oL (sh dI)) (EG_bLst (k := 0) EG_nil (fun _ => rfl) (fun _ => rfl) (by decide)) (fun _ => rfl)) (op_ne (a := s14.2.1) (b := ([] : List Int)) (EqD_lst EqD_int) ((fz_oL (fz_sh (d := dI))) _) ((fz_oL (fz_sh (d := dI))) _))))))) (fun s14 e23 he => by obtain ⟨j15, rfl⟩ := he; exact (SR_set (EX_op2v (x0 := (oL (sh dI)) s14.2.1) (x := fun x17 => (oL (sh dI)) s14.2.1) rfl (EX_call (a := ()) (E' := fun v16 => [some ((oL (sh dI)) v16.2), some ((sh dI) p1), some ((oL (sh dI)) s14.2.1), some ((oL (sh dI)) s14.2.2), j15]) (EX_lend (β := Unit) (d := (oL (sh dI)) s14.1) rfl (EX_consp (x := (s14.2.1.length : Int)) (EX_pE (EG_bNp (EG_consp (EG_var (e := (oL (sh dI))) (v := s14.2.1) rfl) EG_nil) (op_lenO (sh dI) s14.2.1))) EX_nil)) (ref_t_law_roll s14.1 (s14.2.1.length : Int)) (fun _ => rfl) (putx_one 0 _)) (fun _ => rfl) fun x17 => (EX_fin (op_at (itD_own dI _)) (fun x19 => (x19, x17.2)) (fun (v18 : (Int × (List Int))) => (sh dI) v18.1) (fun (v18 : (Int × (List Int))) => [some ((oL (sh dI)) v18.2), some ((sh dI) p1), some ((oL (sh dI)) s14.2.1), some ((oL (sh dI)) s14.2.2), j15]) (fun _ => rfl) (fun _ => rfl))) fun x20 => (SR_expr (EX_app (x := x20.1) (l := s14.2.2) (e := (sh dI)) rfl (EX_pE (EG_sh (d := dI) (v := x20.1) rfl)) rfl rfl) fun x21 => (SR_expr (EX_rem (l := s14.2.1) (EG_sh (d := dI) (v := x20.1) rfl) rfl) fun x22 => (SR_nil (s := ((x20.2, x22, x21) : ((List Int) × (List Int) × (List Int)))) ⟨_, rfl⟩))))) (fun s24 e23 he => by obtain ⟨j25, rfl⟩ := he; exact (SR_retp (w := (s24.2.2, s24.1)) (EX_pE (EG_bNp (EG_consp (EG_var (e := (oL (sh dI))) (v := s24.2.2) rfl) EG_nil) (op_tupleMO dI s24.2.2))) ⟨rfl, rfl⟩))))
/-! _law_list: p0 _law_dice_here, p1 _law_many -/
noncomputable def t_law_list (p0 : (List Int)) (p1 : Int) : M ((List Int) × (List Int)) := finX (κ := Unit) (thn (R.bind (rngM (0 : Int) p1) fun x1 => R.bind (R.ok ()) fun v => R.ok (x1, v)) fun x4 => (sq (thn (R.bind (t_law_roll p0 (p1 + (1 : Int))) fun x6 => grd (okI x6.1) (R.ok x6) R.stk) fun x6 => forT (fun (a18 : Int) (s19 : ((List Int) × (List Int) × (List Int))) => (thn (R.bind (t_law_roll s19.1 (s19.2.1.length : Int)) fun x23 => R.bind (atM s19.2.1 x23.1) fun x25 => R.ok (x25, x23.2)) fun x26 => (thn (appM s19.2.2 x26.1) fun x27 => (thn (remM s19.2.1 x26.1) fun x28 => (.nx (x26.2, x28, x27)))))) (rngT 0 x6.1) (x6.2, x4.1, ([] : List Int))) fun s30 => (.rt (s30.2.2, s30.1))))
theorem ref_t_law_list (p0 : (List Int)) (p1 : Int) : RF 1 (T__law_list [(oL (sh dI)) p0, (sh dI) p1]) (t_law_list p0 p1) (fun v => (sh (dT true dI)) v.1) (fun v => [(oL (sh dI)) v.2]) := RF_fnX (L := fun _ _ => False) rfl (SR_par (EX_cons (E2 := fun (w3 : ((List Int) × Unit)) => [some ((oL (sh dI)) p0), some ((sh dI) p1), none, none, none, none]) (EX_pE (EG_lstR (EG_rg1 (EG_sh (d := dI) (v := p1) rfl)))) fun x1 => (EX_consp (x := ([] : List Int)) (EX_pE (EG.cop (fun _ => ([] : List Int)) (oL (sh dI)) (EG_bLst (k := 0) EG_nil (fun _ => rfl) (fun _ => rfl) (by decide)) (fun _ => rfl))) EX_nil)) (fun _ => rfl) fun x4 => (SR_forE (xs := fun x6 => (rngT 0 x6.1)) (d := dI) (s0 := fun x6 => (x6.2, x4.1, ([] : List Int))) (fun (s : ((List Int) × (List Int) × (List Int))) (env : En) => ∃ (j16 j17 : Option O), env = [some ((oL (sh dI)) s.1), some ((sh dI) p1), some ((oL (sh dI)) s.2.1), some ((oL (sh dI)) s.2.2), j16, j17]) (EX_iR1 (j := fun x6 => x6.1) (EX_call (a := ()) (E' := fun v5 => [some ((oL (sh dI)) v5.2), some ((sh dI) p1), some ((oL (sh dI)) x4.1), some ((oL (sh dI)) ([] : List Int)), none, none]) (EX_lend (β := Unit) (d := (oL (sh dI)) p0) rfl (EX_consp (x := (p1 + (1 : Int))) (EX_pE (EG.frz (r := R.stk) (EG_b2 (EG.bindp (EG_sh (d := dI) (v := p1) rfl) (EG.bindp (EG.of (e := (sh dI)) (v := (1 : Int)) rfl) (EG.of (e := sh dI) (v := p1 + (1 : Int)) rfl)))) (fz_sh (d := dI)))) EX_nil)) (ref_t_law_roll p0 (p1 + (1 : Int))) (fun _ => rfl) (putx_one 0 _)) (fun _ => rfl)) (fun _ => rfl) (fun _ => ⟨_, _, rfl⟩) (fun a18 s19 e29 he => by obtain ⟨j20, j21, rfl⟩ := he; exact ⟨_, rfl, (SR_set (EX_op2v (x0 := (oL (sh dI)) s19.2.1) (x := fun x23 => (oL (sh dI)) s19.2.1) rfl (EX_call (a := ()) (E' := fun v22 => [some ((oL (sh dI)) v22.2), some ((sh dI) p1), some ((oL (sh dI)) s19.2.1), some ((oL (sh dI)) s19.2.2), some ((sh dI) a18), j21]) (EX_lend (β := Unit) (d := (oL (sh dI)) s19.1) rfl (EX_consp (x := (s19.2.1.length : Int)) (EX_pE (EG_bNp (EG_consp (EG_var (e := (oL (sh dI))) (v := s19.2.1) rfl) EG_nil) (op_lenO (sh dI) s19.2.1))) EX_nil)) (ref_t_law_roll s19.1 (s19.2.1.length : Int)) (fun _ => rfl) (putx_one 0 _)) (fun _ => rfl) fun x23 => (EX_fin (op_at (itD_own dI _)) (fun x25 => (x25, x23.2)) (fun (v24 : (Int × (List Int))) => (sh dI) v24.1) (fun (v24 : (Int × (List Int))) => [some ((oL (sh dI)) v24.2), some ((sh dI) p1), some ((oL (sh dI)) s19.2.1), some ((oL (sh dI)) s19.2.2), some ((sh dI) a18), j21]) (fun _ => rfl) (fun _ => rfl))) fun x26 => (SR_expr (EX_app (x := x26.1) (l := s19.2.2) (e := (sh dI)) rfl (EX_pE (EG_sh (d := dI) (v := x26.1) rfl)) rfl rfl) fun x27 => (SR_expr (EX_rem (l := s19.2.1) (EG_sh (d := dI) (v := x26.1) rfl) rfl) fun x28 => (SR_nil (s := ((x26.2, x28, x27) : ((List Int) × (List Int) × (List Int)))) ⟨_, _, rfl⟩))))⟩) (fun s30 e29 he => by obtain ⟨j31, j32, rfl⟩ := he; exact (SR_retp (w := (s30.2.2, s30.1)) (EX_pE (EG_bNp (EG_consp (EG_var (e := (oL (sh dI))) (v := s30.2.2) rfl) EG_nil) (op_tupleMO dI s30.2.2))) ⟨rfl, rfl⟩))))
/-! in_turn: p0 lists, p1 order -/
noncomputable def t_in_turn (p0 : (List (List Int))) (p1 : (List Int)) : M (List (Option Int)) := finT (κ := Unit) (thn (repM ([(none : Option Int)] : List (Option Int)) (p0.length : Int)) fun x1 => (sq (forT (fun (a19 : Int) (s20 : ((List (Option Int)) × (List Int))) => (thn (R.bind (atM p0 a19) fun l24 => grd (szOk l24.length) (lcM (fun a23 => (R.ok (!memB a23 s20.2))) (fun a23 => (R.ok a23)) l24) R.stk) fun x25 => (sq (if (!decide (x25 = ([] : List Int))) then (thn (atM x25 (0 : Int)) fun x30 => thn (setM s20.1 a19 (some x30)) fun l31 => (thn (R.bind (atM x25 (0 : Int)) fun x32 => appM s20.2 x32) fun x33 => (.nx (l31, x33)))) else (.nx (s20.1, s20.2))) fun s34 => (.nx (s34.1, s34.2))))) p1 (x1, ([] : List Int))) fun s37 => (.rt s37.1)))
theorem ref_t_in_turn (p0 : (List (List Int))) (p1 : (List Int)) : RF 0 (T_in_turn [(sh (dL (dT true dI))) p0, (sh (dT true dI)) p1]) (t_in_turn p0 p1) (sh (dT false (dO dI))) (fun _ => []) := RF_fn (L := fun _ _ => False) rfl (SR_set (EX_pE (EG_b2 (EG.bindp (EG.cop (fun _ => ([(none : Option Int)] : List (Option Int))) (oL (sh (dO dI))) (EG_bLst (k := 1) (EG_consp (EG.cop (fun _ => (none : Option Int)) (sh (dO dI)) (EG.of (e := (sh dN)) (v := ()) rfl) (fun _ => rfl)) EG_nil) (fun _ => rfl) (fun _ => rfl) (by decide)) (fun _ => rfl)) (EG.bindp (EG_bNp (EG_consp (EG_sh (d := (dL (dT true dI))) (v := p0) rfl) EG_nil) (op_lenL (dT true dI) p0)) (op_rep (l := ([(none : Option Int)] : List (Option Int))) (lsO_own (dO dI) _) rfl))))) fun x1 => (SR_setp (EX_pE (EG.cop (fun _ => ([] : List Int)) (oL (sh dI)) (EG_bLst (k := 0) EG_nil (fun _ => rfl) (fun _ => rfl) (by decide)) (fun _ => rfl))) (SR_forp (s0 := (x1, ([] : List Int))) (fun (s : ((List (Option Int)) × (List Int))) (env : En) => ∃ (j17 j18 : Option O), env = [some ((sh (dL (dT true dI))) p0), some ((sh (dT true dI)) p1), some ((oL (sh (dO dI))) s.1), some ((oL (sh dI)) s.2), j17, j18, none]) (EG_jTup (EG_sh (d := (dT true dI)) (v := p1) rfl)) ⟨_, _, rfl⟩ (fun a19 s20 e36 he => by obtain ⟨j21, j22, rfl⟩ := he; exact ⟨_, rfl, (SR_set (EX_pE (EG.frz (r := R.stk) (EG_lcm (EG_jTup (EG_b2 (EG.bindp (EG_sh (d := (dL (dT true dI))) (v := p0) rfl) (EG.bindp (EG_sh (d := dI) (v := a19) rfl) (op_at (itD_lst (dT true dI) _)))))) fun a23 => ⟨_, rfl, (EG_bT (EG_b2 (EG.bindp (EG_sh (d := dI) (v := a23) rfl) (EG.bindp (EG_var (e := (oL (sh dI))) (v := s20.2) rfl) (op_notIn (a := a23) (l := s20.2) EqD_int EqD_int ((fz_sh (d := dI)) _) (itP_lst ((fz_oL (fz_sh (d := dI))) _))))))), (EG_sh (d := dI) (v := a23) rfl)⟩) (fz_oL (fz_sh (d := dI))))) fun x25 => (SR_ifp (B := (fun (s : ((List (Option Int)) × (List Int))) (env : En) => env = [some ((sh (dL (dT true dI))) p0), some ((sh (dT true dI)) p1), some ((oL (sh (dO dI))) s.1), some ((oL (sh dI)) s.2), some ((sh dI) a19), some ((sh (dL dI)) x25), none])) (EG_bT (EG_b2 (EG.bindp (EG_sh (d := (dL dI)) (v := x25) rfl) (EG.bindp (EG.cop (fun _ => ([] : List Int)) (oL (sh dI)) (EG_bLst (k := 0) EG_nil (fun _ => rfl) (fun _ => rfl) (by decide)) (fun _ => rfl)) (op_ne (a := x25) (b := ([] : List Int)) (EqD_lst EqD_int) ((fz_sh (d := (dL dI))) _) ((fz_oL (fz_sh (d := dI))) _)))))) (SR_setIxj (j := fun x30 => a19) (x := fun x30 => (some x30)) (l := fun x30 => s20.1) (e := (sh (dO dI))) (EX_pE (EG_b2 (EG.bindp (EG_sh (d := (dL dI)) (v := x25) rfl) (EG.bindp (EG.of (e := (sh dI)) (v := (0 : Int)) rfl) (op_at (itD_lst dI _)))))) (fun _ => rfl) (fun x30 => (EG_sh (d := dI) (v := a19) rfl)) (fun _ => rfl) fun x30 l31 => (SR_expr (EX_appm (x := fun x32 => x32) (l := s20.2) (e := (sh dI)) rfl (EX_pE (EG_b2 (EG.bindp (EG_sh (d := (dL dI)) (v := x25) rfl) (EG.bindp (EG.of (e := (sh dI)) (v := (0 : Int)) rfl) (op_at (itD_lst dI _)))))) (fun _ => rfl) rfl) fun x33 => (SR_nil (s := ((l31, x33) : ((List (Option Int)) × (List Int)))) rfl))) (SR_nil (s := ((s20.1, s20.2) : ((List (Option Int)) × (List Int)))) rfl) (fun s34 e35 he => by subst he; exact (SR_nil (s := ((s34.1, s34.2) : ((List (Option Int)) × (List Int)))) ⟨_, _, rfl⟩))))⟩) (fun s37 e36 he => by obtain ⟨j38, j39, rfl⟩ := he; exact (SR_retp (w := s37.1) (EX_pE (EG_bNp (EG_consp (EG_var (e := (oL (sh (dO dI)))) (v := s37.1) rfl) EG_nil) (op_tupleO (dO dI) s37.1))) rfl)))))
/-! all_ways: p0 things -/
noncomputable def t_all_ways : Nat → (List Int) → M (List (List Int))
  | 0, _ => .stk
  | r + 1, p0 => finT (κ := Unit) ((if (decide ((p0.length : Int) = (0 : Int))) then .rt [([] : List Int)] else (sq (forT (fun (a10 : (Int × Int)) (s11 : (List (List Int))) => (thn (R.bind (R.bind (grd (szOk ((cutG p0 (none : Option Int) (some a10.1)).length + (cutG p0 (some (a10.1 + (1 : Int))) (none : Option Int)).length)) (R.ok ((cutG p0 (none : Option Int) (some a10.1)) ++ (cutG p0 (some (a10.1 + (1 : Int))) (none : Option Int)))) R.stk) fun x14 => (t_all_ways r x14)) fun l16 => grd (szOk l16.length) (lcM (fun a15 => (R.ok true)) (fun a15 => (grd (szOk ([a10.2].length + a15.length)) (R.ok ([a10.2] ++ a15)) R.stk)) l16) R.stk) fun x17 => thn (extM s11 x17) fun l18 => (.nx l18))) (enumT p0) ([] : List (List Int))) fun s20 => (.rt s20))))
theorem ref_t_all_ways : ∀ (r : Nat) (p0 : (List Int)), RF 0 (T_all_ways r [(sh (dT false dI)) p0]) (t_all_ways r p0) (sh (dT false (dT false dI))) (fun _ => [])
  | 0, _ => trivial
  | r + 1, p0 => by
    have ih := ref_t_all_ways r
    exact RF_fn (L := fun _ _ => False) rfl (SR_ifrp (EG_bT (EG_b2 (EG.bindp (EG_bNp (EG_consp (EG_sh (d := (dT false dI)) (v := p0) rfl) EG_nil) (op_lenT false dI p0)) (EG.bindp (EG.of (e := (sh dI)) (v := (0 : Int)) rfl) (op_eq (a := (p0.length : Int)) (b := (0 : Int)) EqD_int ((fz_sh (d := dI)) _) ((fz_sh (d := dI)) _)))))) (EX_pE (EG.cop (fun _ => [([] : List Int)]) (sh (dT false (dT false dI))) (EG_bTup (k := 1) (EG_consp (EG.cop (fun _ => ([] : List Int)) (sh (dT false dI)) (EG_bTup (k := 0) EG_nil (fun _ => rfl) (fun _ => rfl) (by decide)) (fun _ => rfl)) EG_nil) (fun _ => rfl) (fun _ => rfl) (by decide)) (fun _ => rfl))) rfl (SR_setp (EX_pE (EG.cop (fun _ => ([] : List (List Int))) (oL (sh (dT false dI))) (EG_bLst (k := 0) EG_nil (fun _ => rfl) (fun _ => rfl) (by decide)) (fun _ => rfl))) (SR_forp (s0 := ([] : List (List Int))) (fun (s : (List (List Int))) (env : En) => ∃ (j8 j9 : Option O), env = [some ((sh (dT false dI)) p0), some ((oL (sh (dT false dI))) s), j8, j9, none]) (EG_jEnump (EG_jTup (EG_sh (d := (dT false dI)) (v := p0) rfl))) ⟨_, _, rfl⟩ (fun a10 s11 e19 he => by obtain ⟨j12, j13, rfl⟩ := he; exact ⟨_, rfl, (SR_ext (xs0 := _) (s := (R.bind (R.bind (grd (szOk ((cutG p0 (none : Option Int) (some a10.1)).length + (cutG p0 (some (a10.1 + (1 : Int))) (none : Option Int)).length)) (R.ok ((cutG p0 (none : Option Int) (some a10.1)) ++ (cutG p0 (some (a10.1 + (1 : Int))) (none : Option Int)))) R.stk) fun x14 => (t_all_ways r x14)) fun l16 => grd (szOk l16.length) (lcM (fun a15 => (R.ok true)) (fun a15 => (grd (szOk ([a10.2].length + a15.length)) (R.ok ([a10.2] ++ a15)) R.stk)) l16) R.stk)) (l := fun x17 => s11) (r := fun x17 => x17) (d := (dT false dI)) rfl (EX_pE (EG_lcm (EG_jTup (EG.frz (r := R.stk) (EG_call (EG_consm (γ := Unit) (u := ()) (EG.frz (r := R.stk) (EG_b2 (EG.bindp (EG_bSl (EG.bindp (EG_sh (d := (dT false dI)) (v := p0) rfl) (EG.bindp (EG.of (e := id) (v := none) rfl) (EG.bindp (EG.cop some id (EG_pI (EG_sh (d := dI) (v := a10.1) rfl)) (fun _ => rfl)) (op_slF dI p0 (none : Option Int) (some a10.1)))))) (EG.bindp (EG_bSl (EG.bindp (EG_sh (d := (dT false dI)) (v := p0) rfl) (EG.bindp (EG.cop some id (EG_pI (EG_b2 (EG.bindp (EG_sh (d := dI) (v := a10.1) rfl) (EG.bindp (EG.of (e := (sh dI)) (v := (1 : Int)) rfl) (EG.of (e := sh dI) (v := a10.1 + (1 : Int)) rfl))))) (fun _ => rfl)) (EG.bindp (EG.of (e := id) (v := none) rfl) (op_slF dI p0 (some (a10.1 + (1 : Int))) (none : Option Int)))))) (op_plusF dI (cutG p0 (none : Option Int) (some a10.1)) (cutG p0 (some (a10.1 + (1 : Int))) (none : Option Int)))))) (fz_sh (d := (dT false dI)))) EG_nil) (fun _ => rfl) (fun x14 => (ih x14))) (fz_sh (d := (dT false (dT false dI)))))) fun a15 => ⟨_, rfl, (EG.of (e := id) rfl), (EG.frz (r := R.stk) (EG_b2 (EG.bindp (EG.cop (fun _ => [a10.2]) (sh (dT false dI)) (EG_bTup (k := 1) (EG_consp (EG_sh (d := dI) (v := a10.2) rfl) EG_nil) (fun _ => rfl) (fun _ => rfl) (by decide)) (fun _ => rfl)) (EG.bindp (EG_sh (d := (dT false dI)) (v := a15) rfl) (op_plusF dI [a10.2] a15)))) (fz_sh (d := (dT false dI))))⟩)) (fun _ => lsO_own _ _) (fun _ => rfl) fun x17 l18 => (SR_nil (s := (l18 : (List (List Int)))) ⟨_, _, rfl⟩))⟩) (fun s20 e19 he => by obtain ⟨j21, j22, rfl⟩ := he; exact (SR_retp (w := s20) (EX_pE (EG_bNp (EG_consp (EG_var (e := (oL (sh (dT false dI)))) (v := s20) rfl) EG_nil) (op_tupleO (dT false dI) s20))) rfl)))))
theorem ref_t_in_turn_2 (p0 : (List (List Int))) (p1 : (List Int)) : RF 0 (T_in_turn [(sh (dL (dT true dI))) p0, (sh (dT false dI)) p1]) (t_in_turn p0 p1) (sh (dT false (dO dI))) (fun _ => []) := RF_fn (L := fun _ _ => False) rfl (SR_set (EX_pE (EG_b2 (EG.bindp (EG.cop (fun _ => ([(none : Option Int)] : List (Option Int))) (oL (sh (dO dI))) (EG_bLst (k := 1) (EG_consp (EG.cop (fun _ => (none : Option Int)) (sh (dO dI)) (EG.of (e := (sh dN)) (v := ()) rfl) (fun _ => rfl)) EG_nil) (fun _ => rfl) (fun _ => rfl) (by decide)) (fun _ => rfl)) (EG.bindp (EG_bNp (EG_consp (EG_sh (d := (dL (dT true dI))) (v := p0) rfl) EG_nil) (op_lenL (dT true dI) p0)) (op_rep (l := ([(none : Option Int)] : List (Option Int))) (lsO_own (dO dI) _) rfl))))) fun x1 => (SR_setp (EX_pE (EG.cop (fun _ => ([] : List Int)) (oL (sh dI)) (EG_bLst (k := 0) EG_nil (fun _ => rfl) (fun _ => rfl) (by decide)) (fun _ => rfl))) (SR_forp (s0 := (x1, ([] : List Int))) (fun (s : ((List (Option Int)) × (List Int))) (env : En) => ∃ (j17 j18 : Option O), env = [some ((sh (dL (dT true dI))) p0), some ((sh (dT false dI)) p1), some ((oL (sh (dO dI))) s.1), some ((oL (sh dI)) s.2), j17, j18, none]) (EG_jTup (EG_sh (d := (dT false dI)) (v := p1) rfl)) ⟨_, _, rfl⟩ (fun a19 s20 e36 he => by obtain ⟨j21, j22, rfl⟩ := he; exact ⟨_, rfl, (SR_set (EX_pE (EG.frz (r := R.stk) (EG_lcm (EG_jTup (EG_b2 (EG.bindp (EG_sh (d := (dL (dT true dI))) (v := p0) rfl) (EG.bindp (EG_sh (d := dI) (v := a19) rfl) (op_at (itD_lst (dT true dI) _)))))) fun a23 => ⟨_, rfl, (EG_bT (EG_b2 (EG.bindp (EG_sh (d := dI) (v := a23) rfl) (EG.bindp (EG_var (e := (oL (sh dI))) (v := s20.2) rfl) (op_notIn (a := a23) (l := s20.2) EqD_int EqD_int ((fz_sh (d := dI)) _) (itP_lst ((fz_oL (fz_sh (d := dI))) _))))))), (EG_sh (d := dI) (v := a23) rfl)⟩) (fz_oL (fz_sh (d := dI))))) fun x25 => (SR_ifp (B := (fun (s : ((List (Option Int)) × (List Int))) (env : En) => env = [some ((sh (dL (dT true dI))) p0), some ((sh (dT false dI)) p1), some ((oL (sh (dO dI))) s.1), some ((oL (sh dI)) s.2), some ((sh dI) a19), some ((sh (dL dI)) x25), none])) (EG_bT (EG_b2 (EG.bindp (EG_sh (d := (dL dI)) (v := x25) rfl) (EG.bindp (EG.cop (fun _ => ([] : List Int)) (oL (sh dI)) (EG_bLst (k := 0) EG_nil (fun _ => rfl) (fun _ => rfl) (by decide)) (fun _ => rfl)) (op_ne (a := x25) (b := ([] : List Int)) (EqD_lst EqD_int) ((fz_sh (d := (dL dI))) _) ((fz_oL (fz_sh (d := dI))) _)))))) (SR_setIxj (j := fun x30 => a19) (x := fun x30 => (some x30)) (l := fun x30 => s20.1) (e := (sh (dO dI))) (EX_pE (EG_b2 (EG.bindp (EG_sh (d := (dL dI)) (v := x25) rfl) (EG.bindp (EG.of (e := (sh dI)) (v := (0 : Int)) rfl) (op_at (itD_lst dI _)))))) (fun _ => rfl) (fun x30 => (EG_sh (d := dI) (v := a19) rfl)) (fun _ => rfl) fun x30 l31 => (SR_expr (EX_appm (x := fun x32 => x32) (l := s20.2) (e := (sh dI)) rfl (EX_pE (EG_b2 (EG.bindp (EG_sh (d := (dL dI)) (v := x25) rfl) (EG.bindp (EG.of (e := (sh dI)) (v := (0 : Int)) rfl) (op_at (itD_lst dI _)))))) (fun _ => rfl) rfl) fun x33 => (SR_nil (s := ((l31, x33) : ((List (Option Int)) × (List Int)))) rfl))) (SR_nil (s := ((s20.1, s20.2) : ((List (Option Int)) × (List Int)))) rfl) (fun s34 e35 he => by subst he; exact (SR_nil (s := ((s34.1, s34.2) : ((List (Option Int)) × (List Int)))) ⟨_, _, rfl⟩))))⟩) (fun s37 e36 he => by obtain ⟨j38, j39, rfl⟩ := he; exact (SR_retp (w := s37.1) (EX_pE (EG_bNp (EG_consp (EG_var (e := (oL (sh (dO dI)))) (v := s37.1) rfl) EG_nil) (op_tupleO (dO dI) s37.1))) rfl)))))
structure OWish where
  order : (List Int)
  ranks : (List (Int × Int))
@[reducible] def oOWish (v : OWish) : O := .ins 0 [("order", (sh (dT true dI)) v.order), ("ranks", (sh (dK dI)) v.ranks)]
structure Wish where
  order : (List Int)
  ranks : (List (Int × Int))
deriving DecidableEq
@[reducible] def dWish (v : Wish) : D := .ins 0 [("order", (dT true dI) v.order), ("ranks", (dK dI) v.ranks)]
def frOWish (v : OWish) : Wish := ⟨v.order, v.ranks⟩
theorem fzOWish (v : OWish) : (oOWish v).frz = dWish (frOWish v) := by
  show (O.ins 0 _).frz = _
  rw [frz_ins]
  show D.ins _ [("order", ((sh (dT true dI)) v.order).frz), ("ranks", ((sh (dK dI)) v.ranks).frz)] = D.ins _ _
  rw [show ((sh (dT true dI)) v.order).frz = (dT true dI) v.order from (fz_sh (d := (dT true dI))) _]
  rw [show ((sh (dK dI)) v.ranks).frz = (dK dI) v.ranks from (fz_sh (d := (dK dI))) _]
  rfl
/-! Wish___init__: p0 self, p1 order -/
noncomputable def t_Wish___init__ (p1 : (List Int)) : M (Unit × OWish) := finX (κ := Unit) (thn (R.bind (grd (szOk (enumT p1).length) (R.ok ((enumT p1).map fun a1 => (a1.2, a1.1))) R.stk) fun x2 => (R.ok (mergeG [] x2))) fun x3 => (.nx ((), (⟨p1, x3⟩ : OWish))))
theorem ref_t_Wish___init__ (p1 : (List Int)) : RF 1 (T_Wish___init__ [.ins 0 [], (sh (dT true dI)) p1]) (t_Wish___init__ p1) (fun v => (sh dN) v.1) (fun v => [oOWish v.2]) := RF_fnX (L := fun _ _ => False) rfl (SR_fldp [] (EX_pE (EG_bNp (EG_consp (EG_sh (d := (dT true dI)) (v := p1) rfl) EG_nil) (op_tupleT true dI p1))) rfl rfl rfl (by decide) (by decide +kernel) (SR_fld ["order"] (EX_pE (EG.frz (r := R.stk) (EG_bN (EG_consm (γ := Unit) (u := ()) (EG_lcy (EG_jEnump (EG_jTup (EG_asSh (EG_fldp (α := Unit) (x := ()) (e' := (sh (dT true dI))) (y := p1) (EG_var (e := fun (_ : Unit) => .ins 0 [("order", (sh (dT true dI)) p1)]) (v := ()) rfl) rfl rfl (fldO_at ["order"] 0 rfl rfl (by decide +kernel) rfl))))) fun a1 => ⟨_, rfl, (EG.cop (fun _ => (a1.2, a1.1)) (sh (dP2 dI dI)) (EG_bTup (k := 2) (EG_consp (EG_sh (d := dI) (v := a1.2) rfl) (EG_consp (EG_sh (d := dI) (v := a1.1) rfl) EG_nil)) (fun _ => rfl) (fun _ => rfl) (by decide)) (fun _ => rfl))⟩) EG_nil) fun x2 => (op_dict (itD_own (dP2 dI dI) _))) (fz_oK dI))) (fun _ => rfl) rfl (fun _ => rfl) (by decide) (by decide +kernel) fun x3 => (SR_nil (s := ((), (⟨p1, x3⟩ : OWish))) ⟨rfl, rfl⟩)))
/-! Wish_rank: p0 self, p1 one -/
noncomputable def t_Wish_rank (p0 : Wish) (p1 : Int) : M (Option Int) := finT (κ := Unit) (.rt (if false then (some (p0.order.length : Int)) else (look p0.ranks p1)))
theorem ref_t_Wish_rank (p0 : Wish) (p1 : Int) : RF 0 (T_Wish_rank [(sh dWish) p0, (sh dI) p1]) (t_Wish_rank p0 p1) (sh (dO dI)) (fun _ => []) := RF_fn (L := fun _ _ => False) rfl (SR_retp (w := (if false then (some (p0.order.length : Int)) else (look p0.ranks p1))) (EX_pE (EG_ifp (EG_bT (EG_b2 (EG.bindp (EG_sh (d := dI) (v := p1) rfl) (EG.bindp (EG.of (e := (sh dN)) (v := ()) rfl) (EG.of (e := (sh dB)) (v := false) rfl))))) (EG.cop some (sh (dO dI)) (EG_bNp (EG_consp (EG_fldp (e := (sh dWish)) (x := p0) (e' := (sh (dT true dI))) (y := p0.order) (EG_sh (d := dWish) (v := p0) rfl) rfl rfl (fld_at ["order", "ranks"] 0 rfl rfl (by decide +kernel) rfl)) EG_nil) (op_lenT true dI p0.order)) (fun _ => rfl)) (EG_dgetp (EG_fldp (e := (sh dWish)) (x := p0) (e' := (sh (dK dI))) (y := p0.ranks) (EG_sh (d := dWish) (v := p0) rfl) rfl rfl (fld_at ["order", "ranks"] 1 rfl rfl (by decide +kernel) rfl)) (EG_sh (d := dI) (v := p1) rfl)))) rfl)
/-! Wish_ahead_of: p0 self, p1 one -/
noncomputable def t_Wish_ahead_of (p0 : Wish) (p1 : Int) : M (Bool × List Int) := finT (κ := Unit) (thn (t_Wish_rank p0 p1) fun x1 => (thn (R.bind (R.ok x1.isNone) fun b => grd b (R.ok ((fun v => (true, v)) p0.order)) (R.bind ((getM x1).bind fun v => R.ok (some v)) fun x2 => R.ok (wholeG p0.order.length (none : Option Int) x2 && true, cutG p0.order (none : Option Int) x2))) fun x3 => .rt x3))
theorem ref_t_Wish_ahead_of (p0 : Wish) (p1 : Int) : RF 0 (T_Wish_ahead_of [(sh dWish) p0, (sh dI) p1]) (t_Wish_ahead_of p0 p1) (sh (dX dI)) (fun _ => []) := RF_fn (L := fun _ _ => False) rfl (SR_set (EX_pE (EG.frz (r := R.stk) (EG_methp (e := (sh dWish)) (x := p0) (EG_sh (d := dWish) (v := p0) rfl) (ins_no ["order", "ranks"] rfl (by decide +kernel)) (EG_consp (EG_sh (d := dI) (v := p1) rfl) EG_nil) rfl (ref_t_Wish_rank p0 p1)) (fz_sh (d := (dO dI))))) fun x1 => (SR_ret (w := fun x3 => x3) (EX_pE (EG_if (EG_bT (EG_b2 (EG.bindp (EG_sh (d := (dO dI)) (v := x1) rfl) (EG.bindp (EG.of (e := (sh dN)) (v := ()) rfl) (op_isO (d := dI) (fun _ => rfl) x1))))) (EG.cop (fun v => (true, v)) (sh (dX dI)) (EG_asSh (EG_fldp (e := (sh dWish)) (x := p0) (e' := (sh (dT true dI))) (y := p0.order) (EG_sh (d := dWish) (v := p0) rfl) rfl rfl (fld_at ["order", "ranks"] 0 rfl rfl (by decide +kernel) rfl))) (fun _ => rfl)) (EG.frz (r := R.stk) (EG_bSl (EG.bindp (EG_fldp (e := (sh dWish)) (x := p0) (e' := (sh (dT true dI))) (y := p0.order) (EG_sh (d := dWish) (v := p0) rfl) rfl rfl (fld_at ["order", "ranks"] 0 rfl rfl (by decide +kernel) rfl)) (EG.bindp (EG.of (e := id) (v := none) rfl) (EG.bind (EG.co some id (EG_pI (EG_get (EG_sh (d := (dO dI)) (v := x1) rfl))) (fun _ => rfl)) fun x2 => (op_slT true dI p0.order (none : Option Int) x2))))) (fz_sh (d := (dX dI)))))) (fun _ => rfl)))
/-! improved: p0 lists, p1 got -/
noncomputable def t_improved (p0 : (List (List Int))) (p1 : (List Int)) : M (Option (List Int)) := finT (κ := Unit) (thn (grd (szOk p0.length) (lc0 (fun a1 => R.bind (t_Wish___init__ a1) fun x2 => R.ok (frOWish x2.2)) p0) R.stk) fun x3 => (thn (R.bind (grd (szOk (enumT p1).length) (R.ok ((enumT p1).map fun a4 => (a4.2, a4.1))) R.stk) fun x5 => (R.ok (mergeG [] x5))) fun x6 => (sq (thn (grd (okI (p0.length : Int)) (R.ok (rngT 0 (p0.length : Int))) R.stk) fun l => forT (fun (a105 : Int) (s106 : Unit) => (thn (R.ok ([[a105]] : List (List Int))) fun x111 => (sq (whT (fun (s155 : (List (List Int))) => (R.ok (!decide (s155 = ([] : List (List Int)))))) (fun (s155 : (List (List Int))) => (thn (popM s155 (0 : Int)) fun x158 => (sq (thn (R.bind (R.bind (R.bind (atM x158.1 (-1 : Int)) fun x159 => (atM x3 x159)) fun x161 => R.bind (R.bind (atM x158.1 (-1 : Int)) fun x160 => (atM p1 x160)) fun x162 => (t_Wish_ahead_of x161 x162)) fun x => R.ok x.2) fun l => forT (fun (a178 : Int) (s179 : (List (List Int))) => (thn (R.bind (R.bind (lookM x6 a178) fun x181 => R.ok (decide (x181 = a105))) fun b => grd b (R.ok (decide ((1 : Int) < (x158.1.length : Int)))) (R.ok false)) fun b => if b then .rt (some x158.1) else (sq (thn (R.bind (R.bind (lookM x6 a178) fun x182 => R.ok (decide (a105 < x182))) fun b => grd b (R.bind (lookM x6 a178) fun x183 => R.ok (!memB x183 x158.1)) (R.ok false)) fun b => if b then (thn (R.bind (R.bind (R.bind (lookM x6 a178) fun x188 => R.ok [x188]) fun x189 => (grd (szOk (x158.1.length + x189.length)) (R.ok (x158.1 ++ x189)) R.stk)) fun x190 => appM s179 x190) fun x191 => (.nx x191)) else (.nx s179)) fun s192 => (.nx s192)))) l x158.2) fun s195 => (.nx s195)))) fuelW x111) fun s198 => (.nx ())))) l ()) fun s202 => (.rt (none : Option (List Int))))))
theorem ref_t_improved (p0 : (List (List Int))) (p1 : (List Int)) : RF 0 (T_improved [(sh (dL (dT true dI))) p0, (sh (dT false dI)) p1]) (t_improved p0 p1) (sh (dO (dT false dI))) (fun _ => []) := RF_fn (L := fun _ _ => False) rfl (SR_set (EX.frz (d := fun (v : (List Wish)) => (dL dWish) v) (EX_lc0p (e := (sh dWish)) (Es := [some ((sh (dL (dT true dI))) p0), some ((sh (dT false dI)) p1), none, none, none, none, none, none, none, none]) (Ef := [some ((sh (dL (dT true dI))) p0), some ((sh (dT false dI)) p1), none, none, none, none, none, none, none, none]) (EG_jLst (EG_sh (d := (dL (dT true dI))) (v := p0) rfl)) rfl (fun a1 => ⟨_, _, rfl, (EX.co (fun x2 => (frOWish x2.2)) (sh dWish) (fun _ => [some ((sh (dL (dT true dI))) p0), some ((sh (dT false dI)) p1), none, none, none, none, none, none, some ((sh (dT true dI)) a1), none]) (EX.frz (d := fun (v : (Unit × OWish)) => dWish (frOWish v.2)) (EX_make (a := ()) (eo := fun v => oOWish v.2) (EX_consp (x := a1) (EX_pE (EG_sh (d := (dT true dI)) (v := a1) rfl)) EX_nil) (ref_t_Wish___init__ a1) (fun _ => rfl)) (fun v => fzOWish v.2)) (fun _ => rfl) (fun _ => rfl)), fun _ => rfl⟩) rfl) (fun v => (fz_oL (fz_sh (d := dWish))) v)) fun x3 => (SR_set (EX_pE (EG.frz (r := R.stk) (EG_bN (EG_consm (γ := Unit) (u := ()) (EG_lcy (EG_jEnump (EG_jTup (EG_sh (d := (dT false dI)) (v := p1) rfl))) fun a4 => ⟨_, rfl, (EG.cop (fun _ => (a4.2, a4.1)) (sh (dP2 dI dI)) (EG_bTup (k := 2) (EG_consp (EG_sh (d := dI) (v := a4.2) rfl) (EG_consp (EG_sh (d := dI) (v := a4.1) rfl) EG_nil)) (fun _ => rfl) (fun _ => rfl) (by decide)) (fun _ => rfl))⟩) EG_nil) fun x5 => (op_dict (itD_own (dP2 dI dI) _))) (fz_oK dI))) fun x6 => (SR_for (s0 := ()) (fun (s : Unit) (env : En) => ∃ (j101 j102 j103 j104 : Option O), env = [some ((sh (dL (dT true dI))) p0), some ((sh (dT false dI)) p1), some ((sh (dL dWish)) x3), some ((sh (dK dI)) x6), j101, j102, j103, j104, none, none]) (EG_jR1p (EG_bNp (EG_consp (EG_sh (d := (dL (dT true dI))) (v := p0) rfl) EG_nil) (op_lenL (dT true dI) p0))) ⟨_, _, _, _, rfl⟩ (fun a105 s106 e201 he => by obtain ⟨j107, j108, j109, j110, rfl⟩ := he; exact ⟨_, rfl, (SR_set (t := R.ok ([[a105]] : List (List Int))) (EX_pE (EG.cop (fun _ => ([[a105]] : List (List Int))) (oL (sh (dT false dI))) (EG_bLst (k := 1) (EG_consp (EG.cop (fun _ => [a105]) (sh (dT false dI)) (EG_bTup (k := 1) (EG_consp (EG_sh (d := dI) (v := a105) rfl) EG_nil) (fun _ => rfl) (fun _ => rfl) (by decide)) (fun _ => rfl)) EG_nil) (fun _ => rfl) (fun _ => rfl) (by decide)) (fun _ => rfl))) fun x111 => (SR_whl (s0 := x111) (fun (s : (List (List Int))) (env : En) => ∃ (j153 j154 : Option O), env = [some ((sh (dL (dT true dI))) p0), some ((sh (dT false dI)) p1), some ((sh (dL dWish)) x3), some ((sh (dK dI)) x6), some ((sh dI) a105), some ((oL (sh (dT false dI))) s), j153, j154, none, none]) ⟨_, _, rfl⟩ (fun s155 e197 he => by obtain ⟨j156, j157, rfl⟩ := he; exact (EG_bT (EG_b2 (EG.bindp (EG_var (e := (oL (sh (dT false dI)))) (v := s155) rfl) (EG.bindp (EG.cop (fun _ => ([] : List (List Int))) (oL (sh (dT false dI))) (EG_bLst (k := 0) EG_nil (fun _ => rfl) (fun _ => rfl) (by decide)) (fun _ => rfl)) (op_ne (a := s155) (b := ([] : List (List Int))) (EqD_lst (EqD_tup EqD_int)) ((fz_oL (fz_sh (d := (dT false dI)))) _) ((fz_oL (fz_sh (d := (dT false dI)))) _))))))) (fun s155 e197 he => by obtain ⟨j156, j157, rfl⟩ := he; exact (SR_set (EX.frz (d := fun (v : ((List Int) × (List (List Int)))) => (dT false dI) v.1) (EX_pop (l := s155) (e := (sh (dT false dI))) (EG.of (e := (sh dI)) (v := (0 : Int)) rfl) rfl) (fun v => (fz_sh (d := (dT false dI))) v.1)) fun x158 => (SR_for (s0 := x158.2) (fun (s : (List (List Int))) (env : En) => ∃ (j177 : Option O), env = [some ((sh (dL (dT true dI))) p0), some ((sh (dT false dI)) p1), some ((sh (dL dWish)) x3), some ((sh (dK dI)) x6), some ((sh dI) a105), some ((oL (sh (dT false dI))) s), some ((sh (dT false dI)) x158.1), j177, none, none]) (EG_jX (EG.frz (r := R.stk) (EG_meth (e := (sh dWish)) (EG_b2 (EG.bindp (EG_sh (d := (dL dWish)) (v := x3) rfl) (EG.bind (EG_b2 (EG.bindp (EG_sh (d := (dT false dI)) (v := x158.1) rfl) (EG.bindp (EG_b1 (EG.bindp (EG.of (e := (sh dI)) (v := (1 : Int)) rfl) (EG.of (e := sh dI) (v := (-1 : Int)) rfl))) (op_at (itD_tup false dI _))))) fun x159 => (op_at (itD_lst dWish _))))) (fun _ => ins_no ["order", "ranks"] rfl (by decide +kernel)) (EG_consm (γ := Unit) (u := ()) (EG_b2 (EG.bindp (EG_sh (d := (dT false dI)) (v := p1) rfl) (EG.bind (EG_b2 (EG.bindp (EG_sh (d := (dT false dI)) (v := x158.1) rfl) (EG.bindp (EG_b1 (EG.bindp (EG.of (e := (sh dI)) (v := (1 : Int)) rfl) (EG.of (e := sh dI) (v := (-1 : Int)) rfl))) (op_at (itD_tup false dI _))))) fun x160 => (op_at (itD_tup false dI _))))) EG_nil) (fun _ _ => rfl) (fun x161 x162 => (ref_t_Wish_ahead_of x161 x162))) (fz_sh (d := (dX dI))))) ⟨_, rfl⟩ (fun a178 s179 e194 he => by obtain ⟨j180, rfl⟩ := he; exact ⟨_, rfl, (SR_ifr (EG_and (EG_bT (EG_b2 (EG.bind (EG_b2 (EG.bindp (EG_sh (d := (dK dI)) (v := x6) rfl) (EG.bindp (EG_sh (d := dI) (v := a178) rfl) (op_atK dI x6 a178)))) fun x181 => (EG.bindp (EG_sh (d := dI) (v := a105) rfl) (op_eq (a := x181) (b := a105) EqD_int ((fz_sh (d := dI)) _) ((fz_sh (d := dI)) _)))))) (EG_bT (EG_b2 (EG.bindp (EG_bNp (EG_consp (EG_sh (d := (dT false dI)) (v := x158.1) rfl) EG_nil) (op_lenT false dI x158.1)) (EG.bindp (EG.of (e := (sh dI)) (v := (1 : Int)) rfl) (EG.of (e := sh dB) (v := decide ((1 : Int) < (x158.1.length : Int))) rfl)))))) (EX_pE (EG_sh (d := (dT false dI)) (v := x158.1) rfl)) rfl (SR_if (B := (fun (s : (List (List Int))) (env : En) => env = [some ((sh (dL (dT true dI))) p0), some ((sh (dT false dI)) p1), some ((sh (dL dWish)) x3), some ((sh (dK dI)) x6), some ((sh dI) a105), some ((oL (sh (dT false dI))) s), some ((sh (dT false dI)) x158.1), some ((sh dI) a178), none, none])) (EG_and (EG_bT (EG_b2 (EG.bind (EG_b2 (EG.bindp (EG_sh (d := (dK dI)) (v := x6) rfl) (EG.bindp (EG_sh (d := dI) (v := a178) rfl) (op_atK dI x6 a178)))) fun x182 => (EG.bindp (EG_sh (d := dI) (v := a105) rfl) (EG.of (e := sh dB) (v := decide (a105 < x182)) rfl))))) (EG_bT (EG_b2 (EG.bind (EG_b2 (EG.bindp (EG_sh (d := (dK dI)) (v := x6) rfl) (EG.bindp (EG_sh (d := dI) (v := a178) rfl) (op_atK dI x6 a178)))) fun x183 => (EG.bindp (EG_sh (d := (dT false dI)) (v := x158.1) rfl) (op_notIn (a := x183) (l := x158.1) EqD_int EqD_int ((fz_sh (d := dI)) _) (itP_tup ((fz_sh (d := (dT false dI))) _)))))))) (SR_expr (EX_appm (x := fun x190 => x190) (l := s179) (e := (sh (dT false dI))) rfl (EX_pE (EG.frz (r := R.stk) (EG_b2 (EG.bindp (EG_sh (d := (dT false dI)) (v := x158.1) rfl) (EG.bind (EG.co (fun x188 => [x188]) (sh (dT false dI)) (EG_bTup (k := 1) (EG_consm (γ := Unit) (u := ()) (EG_b2 (EG.bindp (EG_sh (d := (dK dI)) (v := x6) rfl) (EG.bindp (EG_sh (d := dI) (v := a178) rfl) (op_atK dI x6 a178)))) EG_nil) (fun _ => rfl) (fun _ => rfl) (by decide)) (fun _ => rfl)) fun x189 => (op_plusF dI x158.1 x189)))) (fz_sh (d := (dT false dI))))) (fun _ => rfl) rfl) fun x191 => (SR_nil (s := (x191 : (List (List Int)))) rfl)) (SR_nil (s := (s179 : (List (List Int)))) rfl) (fun s192 e193 he => by subst he; exact (SR_nil (s := (s192 : (List (List Int)))) ⟨_, rfl⟩))))⟩) (fun s195 e194 he => by obtain ⟨j196, rfl⟩ := he; exact (SR_nil (s := (s195 : (List (List Int)))) ⟨_, _, rfl⟩))))) (fun s198 e197 he => by obtain ⟨j199, j200, rfl⟩ := he; exact (SR_nil (s := (() : Unit)) ⟨_, _, _, _, rfl⟩))))⟩) (fun s202 e201 he => by obtain ⟨j203, j204, j205, j206, rfl⟩ := he; exact (SR_retp (w := (none : Option (List Int))) (EX_pE (EG.of (e := (sh dN)) (v := ()) rfl)) rfl)))))
/-! turn_for: p0 lists, p1 got -/
noncomputable def t_turn_for (p0 : (List (List Int))) (p1 : (List Int)) : M (Option (List Int)) := finT (κ := Unit) (thn (R.bind (rngM (0 : Int) (p0.length : Int)) fun x1 => R.bind (R.ok ()) fun v => R.ok (x1, v)) fun x4 => (sq (whT (fun (s23 : ((List Int) × (List Int))) => (R.ok (!decide (s23.1 = ([] : List Int))))) (fun (s23 : ((List Int) × (List Int))) => (thn (grd (szOk s23.1.length) (lcM (fun a26 => (R.ok true)) (fun a26 => (atM p1 a26)) s23.1) R.stk) fun x28 => (thn (grd (szOk s23.1.length) (lcM (fun a29 => (R.bind (R.bind (R.bind (atM p0 a29) fun l31 => grd (szOk l31.length) (lcM (fun a30 => (R.ok (memB a30 x28))) (fun a30 => (R.ok a30)) l31) R.stk) fun x32 => (atM x32 (0 : Int))) fun x33 => (R.bind (atM p1 a29) fun x34 => R.ok (decide (x33 = x34))))) (fun a29 => (R.ok a29)) s23.1) R.stk) fun x36 => (if (decide (x36 = ([] : List Int))) then .rt (none : Option (List Int)) else (thn (R.bind (atM x36 (0 : Int)) fun x37 => appM s23.2 x37) fun x38 => (thn (R.bind (atM x36 (0 : Int)) fun x => remM s23.1 x) fun x39 => (.nx (x39, x38)))))))) fuelW (x4.1, ([] : List Int))) fun s41 => (.rt (some s41.2))))
theorem ref_t_turn_for (p0 : (List (List Int))) (p1 : (List Int)) : RF 0 (T_turn_for [(sh (dL (dT true dI))) p0, (sh (dT false dI)) p1]) (t_turn_for p0 p1) (sh (dO (dT false dI))) (fun _ => []) := RF_fn (L := fun _ _ => False) rfl (SR_par (EX_cons (E2 := fun (w3 : ((List Int) × Unit)) => [some ((sh (dL (dT true dI))) p0), some ((sh (dT false dI)) p1), none, none, none, none, none, none]) (EX_pE (EG_lstR (EG_rg1 (EG_bNp (EG_consp (EG_sh (d := (dL (dT true dI))) (v := p0) rfl) EG_nil) (op_lenL (dT true dI) p0))))) fun x1 => (EX_consp (x := ([] : List Int)) (EX_pE (EG.cop (fun _ => ([] : List Int)) (oL (sh dI)) (EG_bLst (k := 0) EG_nil (fun _ => rfl) (fun _ => rfl) (by decide)) (fun _ => rfl))) EX_nil)) (fun _ => rfl) fun x4 => (SR_whl (s0 := (x4.1, ([] : List Int))) (fun (s : ((List Int) × (List Int))) (env : En) => ∃ (j21 j22 : Option O), env = [some ((sh (dL (dT true dI))) p0), some ((sh (dT false dI)) p1), some ((oL (sh dI)) s.1), some ((oL (sh dI)) s.2), j21, j22, none, none]) ⟨_, _, rfl⟩ (fun s23 e40 he => by obtain ⟨j24, j25, rfl⟩ := he; exact (EG_bT (EG_b2 (EG.bindp (EG_var (e := (oL (sh dI))) (v := s23.1) rfl) (EG.bindp (EG.cop (fun _ => ([] : List Int)) (oL (sh dI)) (EG_bLst (k := 0) EG_nil (fun _ => rfl) (fun _ => rfl) (by decide)) (fun _ => rfl)) (op_ne (a := s23.1) (b := ([] : List Int)) (EqD_lst EqD_int) ((fz_oL (fz_sh (d := dI))) _) ((fz_oL (fz_sh (d := dI))) _))))))) (fun s23 e40 he => by obtain ⟨j24, j25, rfl⟩ := he; exact (SR_set (EX_pE (EG.frz (r := R.stk) (EG_lcmp (EG_jOwn (d := dI) (l := s23.1) rfl) fun a26 => ⟨_, rfl, (EG.of (e := id) rfl), (EG_b2 (EG.bindp (EG_sh (d := (dT false dI)) (v := p1) rfl) (EG.bindp (EG_sh (d := dI) (v := a26) rfl) (op_at (itD_tup false dI _)))))⟩) (fz_oL (fz_sh (d := dI))))) fun x28 => (SR_set (EX_pE (EG.frz (r := R.stk) (EG_lcmp (EG_jOwn (d := dI) (l := s23.1) rfl) fun a29 => ⟨_, rfl, (EG_bT (EG_b2 (EG.bind (EG_b2 (EG.bind (EG_lcm (EG_jTup (EG_b2 (EG.bindp (EG_sh (d := (dL (dT true dI))) (v := p0) rfl) (EG.bindp (EG_sh (d := dI) (v := a29) rfl) (op_at (itD_lst (dT true dI) _)))))) fun a30 => ⟨_, rfl, (EG_bT (EG_b2 (EG.bindp (EG_sh (d := dI) (v := a30) rfl) (EG.bindp (EG_sh (d := (dL dI)) (v := x28) rfl) (op_in (a := a30) (l := x28) EqD_int EqD_int ((fz_sh (d := dI)) _) (itP_lst ((fz_sh (d := (dL dI))) _))))))), (EG_sh (d := dI) (v := a30) rfl)⟩) fun x32 => (EG.bindp (EG.of (e := (sh dI)) (v := (0 : Int)) rfl) (op_at (itD_own dI _))))) fun x33 => (EG.bind (EG_b2 (EG.bindp (EG_sh (d := (dT false dI)) (v := p1) rfl) (EG.bindp (EG_sh (d := dI) (v := a29) rfl) (op_at (itD_tup false dI _))))) fun x34 => (op_eq (a := x33) (b := x34) EqD_int ((fz_sh (d := dI)) _) ((fz_sh (d := dI)) _)))))), (EG_sh (d := dI) (v := a29) rfl)⟩) (fz_oL (fz_sh (d := dI))))) fun x36 => (SR_ifrp (EG_bT (EG_b2 (EG.bindp (EG_sh (d := (dL dI)) (v := x36) rfl) (EG.bindp (EG.cop (fun _ => ([] : List Int)) (oL (sh dI)) (EG_bLst (k := 0) EG_nil (fun _ => rfl) (fun _ => rfl) (by decide)) (fun _ => rfl)) (op_eq (a := x36) (b := ([] : List Int)) (EqD_lst EqD_int) ((fz_sh (d := (dL dI))) _) ((fz_oL (fz_sh (d := dI))) _)))))) (EX_pE (EG.of (e := (sh dN)) (v := ()) rfl)) rfl (SR_expr (EX_appm (x := fun x37 => x37) (l := s23.2) (e := (sh dI)) rfl (EX_pE (EG_b2 (EG.bindp (EG_sh (d := (dL dI)) (v := x36) rfl) (EG.bindp (EG.of (e := (sh dI)) (v := (0 : Int)) rfl) (op_at (itD_lst dI _)))))) (fun _ => rfl) rfl) fun x38 => (SR_expr (EX_remm (l := s23.1) (EG_b2 (EG.bindp (EG_sh (d := (dL dI)) (v := x36) rfl) (EG.bindp (EG.of (e := (sh dI)) (v := (0 : Int)) rfl) (op_at (itD_lst dI _))))) rfl) fun x39 => (SR_nil (s := ((x39, x38) : ((List Int) × (List Int)))) ⟨_, _, rfl⟩))))))) (fun s41 e40 he => by obtain ⟨j42, j43, rfl⟩ := he; exact (SR_retp (w := (some s41.2)) (EX_pE (EG_bNp (EG_consp (EG_var (e := (oL (sh dI))) (v := s41.2) rfl) EG_nil) (op_tupleO dI s41.2))) rfl))))
/-! law: p0 _law_script -/
noncomputable def t_law (p0 : (List Int)) : M Bool := finT (κ := Unit) (sq (thn (t_law_rounds p0 (1 : Int)) fun x1 => forT (fun (a361 : (List Int)) (s362 : Unit) => (thn (R.bind (t_law_roll a361 (4 : Int)) fun x381 => R.ok (((1 : Int) + x381.1), x381.2)) fun x383 => (thn (R.bind (R.bind (R.bind (grd (okI x383.1) (R.ok (rngT 0 x383.1)) R.stk) fun l391 => grd (szOk l391.length) (lcX (fun a384 s386 => (t_law_full s386 x383.1)) l391 x383.2) R.stk) fun x392 => R.bind ((R.bind (t_law_full x392.2 x383.1) fun x394 => R.bind (R.ok ()) fun v => R.ok (x394, v))) fun v => R.ok (x392, v)) fun v415 => R.ok ((v415.1.1, v415.2.1.1), v415.2.1.2)) fun x426 => (thn (R.bind (R.bind (R.bind (grd (okI x383.1) (R.ok (rngT 0 x383.1)) R.stk) fun l434 => grd (szOk l434.length) (lcX (fun a427 s429 => (t_law_list s429 x383.1)) l434 x426.2) R.stk) fun x435 => R.bind (R.ok ()) fun v => R.ok (x435, v)) fun v446 => R.ok ((v446.1.1, ([] : List Int)), v446.1.2)) fun x456 => (thn (t_in_turn x456.1.1 x426.1.2) fun x457 => (sq (forT (fun (a468 : Int) (s469 : (List Int)) => (thn (R.bind (atM x456.1.1 a468) fun l473 => grd (szOk l473.length) (lcM (fun a472 => (R.ok (!memB a472 s469))) (fun a472 => (R.ok a472)) l473) R.stk) fun x474 => (thn (R.bind (atM x457 a468) fun x475 => (R.bind (R.bind (R.ok (!decide (x474 = ([] : List Int)))) fun b => grd b ((atM x474 (0 : Int)).bind fun v => R.ok (some v)) (R.ok (none : Option Int))) fun x476 => R.ok (!decide (x475 = x476)))) fun b => if b then .rt false else (thn (grd (szOk (s469.length + (cutG x474 (none : Option Int) (some (1 : Int))).length)) (R.ok (s469 ++ (cutG x474 (none : Option Int) (some (1 : Int))))) R.stk) fun x477 => (.nx x477))))) x426.1.2 x456.1.2) fun s479 => (thn (R.bind (rngM (0 : Int) x383.1) fun x482 => (t_all_ways 6 x482)) fun x483 => (thn (grd (szOk x483.length) (lcM (fun a484 => (R.ok true)) (fun a484 => (t_in_turn x426.1.1 a484)) x483) R.stk) fun x486 => (sq (thn (R.bind (R.bind (t_law_roll x456.2 (3 : Int)) fun x488 => R.ok ((cutG x483 (some x488.1) (none : Option Int)), x488.2)) fun x490 => R.ok ((cutG x490.1 (none : Option Int) (some (8 : Int))), x490.2)) fun x492 => forT (fun (a597 : (List Int)) (s598 : Unit) => (thn (R.bind (grd (szOk x483.length) (lcM (fun a606 => (R.bind (R.ok (!decide (a606 = a597))) fun b => grd b (R.bind (R.bind (grd (okI x383.1) (R.ok (rngT 0 x383.1)) R.stk) fun l610 => grd (szOk l610.length) (lcM (fun a607 => (R.bind (R.bind (atM x426.1.1 a607) fun l => R.bind (atM a606 a607) fun k => idxM l k) fun x608 => (R.bind (R.bind (atM x426.1.1 a607) fun l => R.bind (atM a597 a607) fun k => idxM l k) fun x609 => R.ok (decide (x609 < x608))))) (fun a607 => (R.ok a607)) l610) R.stk) fun x611 => R.ok (decide (x611 = ([] : List Int)))) (R.ok false))) (fun a606 => (R.ok a606)) x483) R.stk) fun x613 => R.ok (decide (x613 = ([] : List (List Int))))) fun x614 => (thn (R.bind (t_improved x426.1.1 a597) fun x615 => R.bind ((R.bind (t_turn_for x426.1.1 a597) fun x616 => R.bind (R.ok ()) fun v => R.ok (x616, v))) fun v => R.ok (x615, v)) fun x619 => (if ((!decide (x619.1.isNone = x614)) || ((!decide ((memB ((fun l => l.map some) a597) x486) = x614)) || (decide (x619.2.1.isNone = x614)))) then .rt false else (thn (R.bind (R.ok x619.2.1.isSome) fun b => grd b (R.bind (R.bind (getM x619.2.1) fun x620 => (t_in_turn x426.1.1 x620)) fun x621 => R.ok (!decide (x621 = ((fun l => l.map some) a597)))) (R.ok false)) fun b => if b then .rt false else (sq (if x619.1.isSome then (sq (thn (R.bind (R.bind (getM x619.1) fun x659 => (R.ok (x659.length : Int))) fun j => grd (okI j) (R.ok (rngT 0 j)) R.stk) fun l => forT (fun (a671 : Int) (s672 : (List Int)) => (thn (R.bind (R.bind (getM x619.1) fun x676 => (R.bind (R.bind (R.bind (getM x619.1) fun x674 => (R.ok (x674.length : Int))) fun x675 => (modM (a671 + (1 : Int)) x675)) fun x677 => (atM x676 x677))) fun x678 => (atM a597 x678)) fun x679 => thn (R.bind (getM x619.1) fun x680 => (atM x680 a671)) fun x682 => thn (setM s672 x682 x679) fun l681 => (.nx l681))) l a597) fun s684 => (thn (R.bind (R.bind (getM x619.1) fun l689 => grd (szOk l689.length) (lcM (fun a686 => (R.bind (R.bind (atM x426.1.1 a686) fun l => R.bind (atM s684 a686) fun k => idxM l k) fun x687 => (R.bind (R.bind (atM x426.1.1 a686) fun l => R.bind (atM a597 a686) fun k => idxM l k) fun x688 => R.ok (decide (x688 ≤ x687))))) (fun a686 => (R.ok a686)) l689) R.stk) fun x690 => R.ok (!decide (x690 = ([] : List Int)))) fun b => if b then .rt false else (thn (R.bind (rngM (0 : Int) x383.1) fun x691 => R.ok (!decide ((sortI s684) = x691))) fun b => if b then .rt false else (.nx ())))) else (.nx ())) fun s692 => (.nx ()))))))) x492.1 ()) fun s697 => (.nx ())))))))))) x1 ()) fun s706 => (.rt true))
theorem ref_t_law (p0 : (List Int)) : RF 0 (T_law [(sh (dF dI)) p0]) (t_law p0) (sh dB) (fun _ => []) := RF_fn (L := fun _ _ => False) rfl (SR_forO (t := (t_law_rounds p0 (1 : Int))) (xs := fun x1 => x1) (eo := (oL (sh dI))) (s0 := fun x1 => ()) (fun (s : Unit) (env : En) => ∃ (j344 j345 j346 j347 j348 j349 j350 j351 j352 j353 j354 j355 j356 j357 j358 j359 j360 : Option O), env = [some ((sh (dF dI)) p0), j344, j345, j346, j347, j348, j349, j350, j351, j352, j353, j354, j355, j356, j357, j358, j359, j360, none, none]) (EX_pE (EG_callp (EG_consp (EG_sh (d := (dF dI)) (v := p0) rfl) (EG_consp (EG.of (e := (sh dI)) (v := (1 : Int)) rfl) EG_nil)) rfl (ref_t_law_rounds p0 (1 : Int)))) (fun _ => rfl) (fun _ => ⟨_, _, _, _, _, _, _, _, _, _, _, _, _, _, _, _, _, rfl⟩) (fun a361 s362 e705 he => by obtain ⟨j363, j364, j365, j366, j367, j368, j369, j370, j371, j372, j373, j374, j375, j376, j377, j378, j379, rfl⟩ := he; exact (SR_set (EX.frz (d := fun (v : (Int × (List Int))) => dI v.1) (EX_op2 (EX.bindp (EX_pE (EG.of (e := (sh dI)) (v := (1 : Int)) rfl)) (EX.bind (EX_call (a := ()) (E' := fun v380 => [some ((sh (dF dI)) p0), some ((oL (sh dI)) v380.2), j364, j365, j366, j367, j368, j369, j370, j371, j372, j373, j374, j375, j376, j377, j378, j379, none, none]) (EX_lend (β := Unit) (d := (oL (sh dI)) a361) rfl (EX_consp (x := (4 : Int)) (EX_pE (EG.of (e := (sh dI)) (v := (4 : Int)) rfl)) EX_nil)) (ref_t_law_roll a361 (4 : Int)) (fun _ => rfl) (putx_one 1 _)) fun x381 => (EX_finp (EG.of (e := sh dI) (v := (1 : Int) + x381.1) rfl) (((1 : Int) + x381.1), x381.2) (fun (v382 : (Int × (List Int))) => (sh dI) v382.1) (fun (v382 : (Int × (List Int))) => [some ((sh (dF dI)) p0), some ((oL (sh dI)) v382.2), j364, j365, j366, j367, j368, j369, j370, j371, j372, j373, j374, j375, j376, j377, j378, j379, none, none]) rfl rfl)))) (fun v => (fz_sh (d := dI)) v.1)) fun x383 => (SR_asg (d := fun (x426 : (((List (List Int)) × (List Int)) × (List Int))) => (dP2 (dL (dT true dI)) (dT true dI)) x426.1) (e2 := fun (x426 : (((List (List Int)) × (List Int)) × (List Int))) => [some ((sh (dF dI)) p0), some ((oL (sh dI)) x426.2), some ((sh dI) x383.1), some ((sh (dL (dT true dI))) x426.1.1), some ((sh (dT true dI)) x426.1.2), j367, j368, j369, (shOf j370), j371, j372, j373, j374, j375, j376, j377, j378, j379, none, none]) (EX.co (fun (v415 : (((List (List Int)) × (List Int)) × (((List Int) × (List Int)) × Unit))) => ((v415.1.1, v415.2.1.1), v415.2.1.2)) (fun (u425 : (((List (List Int)) × (List Int)) × (List Int))) => (sh (dP2 (dL (dT true dI)) (dT true dI))) u425.1) (fun (u425 : (((List (List Int)) × (List Int)) × (List Int))) => [some ((sh (dF dI)) p0), some ((oL (sh dI)) u425.2), some ((sh dI) x383.1), j365, j366, j367, j368, j369, (shOf j370), j371, j372, j373, j374, j375, j376, j377, j378, j379, none, none]) (EX_eTup (k := 2) (d := fun (v415 : (((List (List Int)) × (List Int)) × (((List Int) × (List Int)) × Unit))) => (dP2 (dL (dT true dI)) (dT true dI)) (v415.1.1, v415.2.1.1)) (EX_cons (E2 := fun (w405 : (((List (List Int)) × (List Int)) × (((List Int) × (List Int)) × Unit))) => [some ((sh (dF dI)) p0), some ((oL (sh dI)) w405.2.1.2), some ((sh dI) x383.1), j365, j366, j367, j368, j369, (shOf j370), j371, j372, j373, j374, j375, j376, j377, j378, j379, none, none]) (EX.frz (d := fun (v : ((List (List Int)) × (List Int))) => (dL (dT true dI)) v.1) (EX_lcm (σ := (List Int)) (β := (List Int)) (e := (sh (dT true dI))) (Es := fun s386 => [some ((sh (dF dI)) p0), some ((oL (sh dI)) s386), some ((sh dI) x383.1), j365, j366, j367, j368, j369, none, j371, j372, j373, j374, j375, j376, j377, j378, j379, none, none]) (Ef := fun s386 => [some ((sh (dF dI)) p0), some ((oL (sh dI)) s386), some ((sh dI) x383.1), j365, j366, j367, j368, j369, (shOf j370), j371, j372, j373, j374, j375, j376, j377, j378, j379, none, none]) (s0 := x383.2) (EG_jR1p (EG_sh (d := dI) (v := x383.1) rfl)) rfl (fun a384 s386 => ⟨_, _, rfl, (EX.frz (d := fun (v : ((List Int) × (List Int))) => (dT true dI) v.1) (EX_call (a := ()) (E' := fun v387 => [some ((sh (dF dI)) p0), some ((oL (sh dI)) v387.2), some ((sh dI) x383.1), j365, j366, j367, j368, j369, some ((sh dI) a384), j371, j372, j373, j374, j375, j376, j377, j378, j379, none, none]) (EX_lend (β := Unit) (d := (oL (sh dI)) s386) rfl (EX_consp (x := x383.1) (EX_pE (EG_sh (d := dI) (v := x383.1) rfl)) EX_nil)) (ref_t_law_full s386 x383.1) (fun _ => rfl) (putx_one 1 _)) (fun v => (fz_sh (d := (dT true dI))) v.1)), fun _ => rfl⟩) (fun _ => rfl)) (fun v => (fz_oL (fz_sh (d := (dT true dI)))) v.1)) fun x392 => (EX_cons (E2 := fun (w395 : (((List Int) × (List Int)) × Unit)) => [some ((sh (dF dI)) p0), some ((oL (sh dI)) w395.1.2), some ((sh dI) x383.1), j365, j366, j367, j368, j369, (shOf j370), j371, j372, j373, j374, j375, j376, j377, j378, j379, none, none]) (EX.frz (d := fun (v : ((List Int) × (List Int))) => (dT true dI) v.1) (EX_call (a := ()) (E' := fun v393 => [some ((sh (dF dI)) p0), some ((oL (sh dI)) v393.2), some ((sh dI) x383.1), j365, j366, j367, j368, j369, (shOf j370), j371, j372, j373, j374, j375, j376, j377, j378, j379, none, none]) (EX_lend (β := Unit) (d := (oL (sh dI)) x392.2) rfl (EX_consp (x := x383.1) (EX_pE (EG_sh (d := dI) (v := x383.1) rfl)) EX_nil)) (ref_t_law_full x392.2 x383.1) (fun _ => rfl) (putx_one 1 _)) (fun v => (fz_sh (d := (dT true dI))) v.1)) fun x394 => EX_nil)) (fun _ => rfl) (by decide) (fun (v415 : (((List (List Int)) × (List Int)) × (((List Int) × (List Int)) × Unit))) => (by simp only [List.map_cons, List.map_nil]; rw [show ((sh (dL (dT true dI))) v415.1.1).frz = (dL (dT true dI)) v415.1.1 from (fz_sh (d := (dL (dT true dI)))) _]; rw [show ((sh (dT true dI)) v415.2.1.1).frz = (dT true dI) v415.2.1.1 from (fz_sh (d := (dT true dI))) _]))) (fun _ => rfl) (fun _ => rfl)) (fun _ => rfl) (fun _ => rfl) fun x426 => (SR_asg (d := fun (x456 : (((List (List Int)) × (List Int)) × (List Int))) => (dP2 (dL (dT true dI)) (dL dI)) x456.1) (e2 := fun (x456 : (((List (List Int)) × (List Int)) × (List Int))) => [some ((sh (dF dI)) p0), some ((oL (sh dI)) x456.2), some ((sh dI) x383.1), some ((sh (dL (dT true dI))) x426.1.1), some ((sh (dT true dI)) x426.1.2), some ((sh (dL (dT true dI))) x456.1.1), some ((sh (dL dI)) x456.1.2), j369, (shOf (shOf j370)), j371, j372, j373, j374, j375, j376, j377, j378, j379, none, none]) (EX.co (fun (v446 : (((List (List Int)) × (List Int)) × Unit)) => ((v446.1.1, ([] : List Int)), v446.1.2)) (fun (u455 : (((List (List Int)) × (List Int)) × (List Int))) => (sh (dP2 (dL (dT true dI)) (dL dI))) u455.1) (fun (u455 : (((List (List Int)) × (List Int)) × (List Int))) => [some ((sh (dF dI)) p0), some ((oL (sh dI)) u455.2), some ((sh dI) x383.1), some ((sh (dL (dT true dI))) x426.1.1), some ((sh (dT true dI)) x426.1.2), j367, j368, j369, (shOf (shOf j370)), j371, j372, j373, j374, j375, j376, j377, j378, j379, none, none]) (EX_eTup (k := 2) (d := fun (v446 : (((List (List Int)) × (List Int)) × Unit)) => (dP2 (dL (dT true dI)) (dL dI)) (v446.1.1, ([] : List Int))) (EX_cons (E2 := fun (w437 : (((List (List Int)) × (List Int)) × Unit)) => [some ((sh (dF dI)) p0), some ((oL (sh dI)) w437.1.2), some ((sh dI) x383.1), some ((sh (dL (dT true dI))) x426.1.1), some ((sh (dT true dI)) x426.1.2), j367, j368, j369, (shOf (shOf j370)), j371, j372, j373, j374, j375, j376, j377, j378, j379, none, none]) (EX.frz (d := fun (v : ((List (List Int)) × (List Int))) => (dL (dT true dI)) v.1) (EX_lcm (σ := (List Int)) (β := (List Int)) (e := (sh (dT true dI))) (Es := fun s429 => [some ((sh (dF dI)) p0), some ((oL (sh dI)) s429), some ((sh dI) x383.1), some ((sh (dL (dT true dI))) x426.1.1), some ((sh (dT true dI)) x426.1.2), j367, j368, j369, none, j371, j372, j373, j374, j375, j376, j377, j378, j379, none, none]) (Ef := fun s429 => [some ((sh (dF dI)) p0), some ((oL (sh dI)) s429), some ((sh dI) x383.1), some ((sh (dL (dT true dI))) x426.1.1), some ((sh (dT true dI)) x426.1.2), j367, j368, j369, (shOf (shOf j370)), j371, j372, j373, j374, j375, j376, j377, j378, j379, none, none]) (s0 := x426.2) (EG_jR1p (EG_sh (d := dI) (v := x383.1) rfl)) rfl (fun a427 s429 => ⟨_, _, rfl, (EX.frz (d := fun (v : ((List Int) × (List Int))) => (dT true dI) v.1) (EX_call (a := ()) (E' := fun v430 => [some ((sh (dF dI)) p0), some ((oL (sh dI)) v430.2), some ((sh dI) x383.1), some ((sh (dL (dT true dI))) x426.1.1), some ((sh (dT true dI)) x426.1.2), j367, j368, j369, some ((sh dI) a427), j371, j372, j373, j374, j375, j376, j377, j378, j379, none, none]) (EX_lend (β := Unit) (d := (oL (sh dI)) s429) rfl (EX_consp (x := x383.1) (EX_pE (EG_sh (d := dI) (v := x383.1) rfl)) EX_nil)) (ref_t_law_list s429 x383.1) (fun _ => rfl) (putx_one 1 _)) (fun v => (fz_sh (d := (dT true dI))) v.1)), fun _ => rfl⟩) (fun _ => rfl)) (fun v => (fz_oL (fz_sh (d := (dT true dI)))) v.1)) fun x435 => (EX_consp (x := ([] : List Int)) (EX_pE (EG.frz (r := R.stk) (EG.cop (fun _ => ([] : List Int)) (oL (sh dI)) (EG_bLst (k := 0) EG_nil (fun _ => rfl) (fun _ => rfl) (by decide)) (fun _ => rfl)) (fz_oL (fz_sh (d := dI))))) EX_nil)) (fun _ => rfl) (by decide) (fun (v446 : (((List (List Int)) × (List Int)) × Unit)) => (by simp only [List.map_cons, List.map_nil]; rw [show ((sh (dL (dT true dI))) v446.1.1).frz = (dL (dT true dI)) v446.1.1 from (fz_sh (d := (dL (dT true dI)))) _]; rw [show ((sh (dL dI)) ([] : List Int)).frz = (dL dI) ([] : List Int) from (fz_sh (d := (dL dI))) _]))) (fun _ => rfl) (fun _ => rfl)) (fun _ => rfl) (fun _ => rfl) fun x456 => (SR_set (EX_pE (EG.frz (r := R.stk) (EG_callp (EG_consp (EG_sh (d := (dL (dT true dI))) (v := x456.1.1) rfl) (EG_consp (EG_sh (d := (dT true dI)) (v := x426.1.2) rfl) EG_nil)) rfl (ref_t_in_turn x456.1.1 x426.1.2)) (fz_sh (d := (dT false (dO dI)))))) fun x457 => (SR_forp (s0 := x456.1.2) (fun (s : (List Int)) (env : En) => ∃ (j466 j467 : Option O), env = [some ((sh (dF dI)) p0), some ((oL (sh dI)) x456.2), some ((sh dI) x383.1), some ((sh (dL (dT true dI))) x426.1.1), some ((sh (dT true dI)) x426.1.2), some ((sh (dL (dT true dI))) x456.1.1), some ((sh (dL dI)) s), some ((sh (dT false (dO dI))) x457), j466, j467, j372, j373, j374, j375, j376, j377, j378, j379, none, none]) (EG_jTup (EG_sh (d := (dT true dI)) (v := x426.1.2) rfl)) ⟨_, _, rfl⟩ (fun a468 s469 e478 he => by obtain ⟨j470, j471, rfl⟩ := he; exact ⟨_, rfl, (SR_set (EX_pE (EG.frz (r := R.stk) (EG_lcm (EG_jTup (EG_b2 (EG.bindp (EG_sh (d := (dL (dT true dI))) (v := x456.1.1) rfl) (EG.bindp (EG_sh (d := dI) (v := a468) rfl) (op_at (itD_lst (dT true dI) _)))))) fun a472 => ⟨_, rfl, (EG_bT (EG_b2 (EG.bindp (EG_sh (d := dI) (v := a472) rfl) (EG.bindp (EG_sh (d := (dL dI)) (v := s469) rfl) (op_notIn (a := a472) (l := s469) EqD_int EqD_int ((fz_sh (d := dI)) _) (itP_lst ((fz_sh (d := (dL dI))) _))))))), (EG_sh (d := dI) (v := a472) rfl)⟩) (fz_oL (fz_sh (d := dI))))) fun x474 => (SR_ifr (EG_bT (EG_b2 (EG.bind (EG_b2 (EG.bindp (EG_sh (d := (dT false (dO dI))) (v := x457) rfl) (EG.bindp (EG_sh (d := dI) (v := a468) rfl) (op_at (itD_tup false (dO dI) _))))) fun x475 => (EG.bind (EG_if (EG_bT (EG_b2 (EG.bindp (EG_sh (d := (dL dI)) (v := x474) rfl) (EG.bindp (EG.cop (fun _ => ([] : List Int)) (oL (sh dI)) (EG_bLst (k := 0) EG_nil (fun _ => rfl) (fun _ => rfl) (by decide)) (fun _ => rfl)) (op_ne (a := x474) (b := ([] : List Int)) (EqD_lst EqD_int) ((fz_sh (d := (dL dI))) _) ((fz_oL (fz_sh (d := dI))) _)))))) (EG.co some (sh (dO dI)) (EG_b2 (EG.bindp (EG_sh (d := (dL dI)) (v := x474) rfl) (EG.bindp (EG.of (e := (sh dI)) (v := (0 : Int)) rfl) (op_at (itD_lst dI _))))) (fun _ => rfl)) (EG.cop (fun _ => (none : Option Int)) (sh (dO dI)) (EG.of (e := (sh dN)) (v := ()) rfl) (fun _ => rfl))) fun x476 => (op_ne (a := x475) (b := x476) (EqD_opt EqD_int nonI1 nonI2) ((fz_sh (d := (dO dI))) _) ((fz_sh (d := (dO dI))) _)))))) (EX_pE (EG.of (e := (sh dB)) (v := false) rfl)) rfl (SR_set (EX_pE (EG.frz (r := R.stk) (EG_b2 (EG.bindp (EG_sh (d := (dL dI)) (v := s469) rfl) (EG.bindp (EG_bSl (EG.bindp (EG_sh (d := (dL dI)) (v := x474) rfl) (EG.bindp (EG.of (e := id) (v := none) rfl) (EG.bindp (EG.cop some id (EG_pI (EG.of (e := (sh dI)) (v := (1 : Int)) rfl)) (fun _ => rfl)) (op_slLst dI x474 (none : Option Int) (some (1 : Int))))))) (op_plusL (l := s469) (r := (cutG x474 (none : Option Int) (some (1 : Int)))) (lsO_sh dI _) (lsO_own dI _) rfl rfl)))) (fz_oL (fz_sh (d := dI))))) fun x477 => (SR_nil (s := (x477 : (List Int))) ⟨_, _, rfl⟩))))⟩) (fun s479 e478 he => by obtain ⟨j480, j481, rfl⟩ := he; exact (SR_set (EX_pE (EG.frz (r := R.stk) (EG_call (EG_consm (γ := Unit) (u := ()) (EG_tupR (EG_rg1 (EG_sh (d := dI) (v := x383.1) rfl))) EG_nil) (fun _ => rfl) (fun x482 => (ref_t_all_ways 6 x482))) (fz_sh (d := (dT false (dT false dI)))))) fun x483 => (SR_set (EX_pE (EG.frz (r := R.stk) (EG_lcmp (EG_jTup (EG_sh (d := (dT false (dT false dI))) (v := x483) rfl)) fun a484 => ⟨_, rfl, (EG.of (e := id) rfl), (EG.frz (r := R.stk) (EG_callp (EG_consp (EG_sh (d := (dL (dT true dI))) (v := x426.1.1) rfl) (EG_consp (EG_sh (d := (dT false dI)) (v := a484) rfl) EG_nil)) rfl (ref_t_in_turn_2 x426.1.1 a484)) (fz_sh (d := (dT false (dO dI)))))⟩) (fz_oL (fz_sh (d := (dT false (dO dI))))))) fun x486 => (SR_forE (xs := fun x492 => x492.1) (d := (dT false dI)) (s0 := fun x492 => ()) (fun (s : Unit) (env : En) => ∃ (j590 j591 j592 j593 j594 j595 j596 : Option O), env = [some ((sh (dF dI)) p0), j590, some ((sh dI) x383.1), some ((sh (dL (dT true dI))) x426.1.1), some ((sh (dT true dI)) x426.1.2), some ((sh (dL (dT true dI))) x456.1.1), some ((sh (dL dI)) s479), some ((sh (dT false (dO dI))) x457), j480, j481, some ((sh (dT false (dT false dI))) x483), some ((sh (dL (dT false (dO dI)))) x486), j591, j592, j593, j594, j595, j596, none, none]) (EX_iE (ds := fun x492 => (x492.1).map (dT false dI)) (EX.frz (d := fun (v : ((List (List Int)) × (List Int))) => (dT false (dT false dI)) v.1) (EX_sl (EX_slLo (EG_sh (d := (dT false (dT false dI))) (v := x483) rfl) (EX_call (a := ()) (E' := fun v487 => [some ((sh (dF dI)) p0), some ((oL (sh dI)) v487.2), some ((sh dI) x383.1), some ((sh (dL (dT true dI))) x426.1.1), some ((sh (dT true dI)) x426.1.2), some ((sh (dL (dT true dI))) x456.1.1), some ((sh (dL dI)) s479), some ((sh (dT false (dO dI))) x457), j480, j481, some ((sh (dT false (dT false dI))) x483), some ((sh (dL (dT false (dO dI)))) x486), j374, j375, j376, j377, j378, j379, none, none]) (EX_lend (β := Unit) (d := (oL (sh dI)) x456.2) rfl (EX_consp (x := (3 : Int)) (EX_pE (EG.of (e := (sh dI)) (v := (3 : Int)) rfl)) EX_nil)) (ref_t_law_roll x456.2 (3 : Int)) (fun _ => rfl) (putx_one 1 _)) (fun _ => rfl) fun x488 => (EX_finp (op_slF (dT false dI) x483 (some x488.1) (none : Option Int)) ((cutG x483 (some x488.1) (none : Option Int)), x488.2) (fun (v489 : ((List (List Int)) × (List Int))) => (sh (dT false (dT false dI))) v489.1) (fun (v489 : ((List (List Int)) × (List Int))) => [some ((sh (dF dI)) p0), some ((oL (sh dI)) v489.2), some ((sh dI) x383.1), some ((sh (dL (dT true dI))) x426.1.1), some ((sh (dT true dI)) x426.1.2), some ((sh (dL (dT true dI))) x456.1.1), some ((sh (dL dI)) s479), some ((sh (dT false (dO dI))) x457), j480, j481, some ((sh (dT false (dT false dI))) x483), some ((sh (dL (dT false (dO dI)))) x486), j374, j375, j376, j377, j378, j379, none, none]) rfl rfl)) (fun x490 => (EG.of (e := id) (v := none) rfl)) (fun x490 => (EG.cop some id (EG_pI (EG.of (e := (sh dI)) (v := (8 : Int)) rfl)) (fun _ => rfl))) fun x490 => (EX_finp (op_slF (dT false dI) x490.1 (none : Option Int) (some (8 : Int))) ((cutG x490.1 (none : Option Int) (some (8 : Int))), x490.2) (fun (v491 : ((List (List Int)) × (List Int))) => (sh (dT false (dT false dI))) v491.1) (fun (v491 : ((List (List Int)) × (List Int))) => [some ((sh (dF dI)) p0), some ((oL (sh dI)) v491.2), some ((sh dI) x383.1), some ((sh (dL (dT true dI))) x426.1.1), some ((sh (dT true dI)) x426.1.2), some ((sh (dL (dT true dI))) x456.1.1), some ((sh (dL dI)) s479), some ((sh (dT false (dO dI))) x457), j480, j481, some ((sh (dT false (dT false dI))) x483), some ((sh (dL (dT false (dO dI)))) x486), j374, j375, j376, j377, j378, j379, none, none]) rfl rfl)) (fun v => (fz_sh (d := (dT false (dT false dI)))) v.1)) (fun _ => rfl)) (fun _ => rfl) (fun _ => ⟨_, _, _, _, _, _, _, rfl⟩) (fun a597 s598 e696 he => by obtain ⟨j599, j600, j601, j602, j603, j604, j605, rfl⟩ := he; exact ⟨_, rfl, (SR_set (EX_pE (EG_b2 (EG.bind (EG_lcmp (EG_jTup (EG_sh (d := (dT false (dT false dI))) (v := x483) rfl)) fun a606 => ⟨_, rfl, (EG_and (EG_bT (EG_b2 (EG.bindp (EG_sh (d := (dT false dI)) (v := a606) rfl) (EG.bindp (EG_sh (d := (dT false dI)) (v := a597) rfl) (op_ne (a := a606) (b := a597) (EqD_tup EqD_int) ((fz_sh (d := (dT false dI))) _) ((fz_sh (d := (dT false dI))) _)))))) (EG_bT (EG_b2 (EG.bind (EG_lcm (EG_jR1p (EG_sh (d := dI) (v := x383.1) rfl)) fun a607 => ⟨_, rfl, (EG_bT (EG_b2 (EG.bind (EG_idxT EqD_int (EG_b2 (EG.bindp (EG_sh (d := (dL (dT true dI))) (v := x426.1.1) rfl) (EG.bindp (EG_sh (d := dI) (v := a607) rfl) (op_at (itD_lst (dT true dI) _))))) (EG_b2 (EG.bindp (EG_sh (d := (dT false dI)) (v := a606) rfl) (EG.bindp (EG_sh (d := dI) (v := a607) rfl) (op_at (itD_tup false dI _)))))) fun x608 => (EG.bind (EG_idxT EqD_int (EG_b2 (EG.bindp (EG_sh (d := (dL (dT true dI))) (v := x426.1.1) rfl) (EG.bindp (EG_sh (d := dI) (v := a607) rfl) (op_at (itD_lst (dT true dI) _))))) (EG_b2 (EG.bindp (EG_sh (d := (dT false dI)) (v := a597) rfl) (EG.bindp (EG_sh (d := dI) (v := a607) rfl) (op_at (itD_tup false dI _)))))) fun x609 => (EG.of (e := sh dB) (v := decide (x609 < x608)) rfl))))), (EG_sh (d := dI) (v := a607) rfl)⟩) fun x611 => (EG.bindp (EG.cop (fun _ => ([] : List Int)) (oL (sh dI)) (EG_bLst (k := 0) EG_nil (fun _ => rfl) (fun _ => rfl) (by decide)) (fun _ => rfl)) (op_eq (a := x611) (b := ([] : List Int)) (EqD_lst EqD_int) ((fz_oL (fz_sh (d := dI))) _) ((fz_oL (fz_sh (d := dI))) _))))))), (EG_sh (d := (dT false dI)) (v := a606) rfl)⟩) fun x613 => (EG.bindp (EG.cop (fun _ => ([] : List (List Int))) (oL (sh (dT false dI))) (EG_bLst (k := 0) EG_nil (fun _ => rfl) (fun _ => rfl) (by decide)) (fun _ => rfl)) (op_eq (a := x613) (b := ([] : List (List Int))) (EqD_lst (EqD_tup EqD_int)) ((fz_oL (fz_sh (d := (dT false dI)))) _) ((fz_oL (fz_sh (d := (dT false dI)))) _)))))) fun x614 => (SR_par (EX_cons (E2 := fun (w618 : ((Option (List Int)) × ((Option (List Int)) × Unit))) => [some ((sh (dF dI)) p0), j599, some ((sh dI) x383.1), some ((sh (dL (dT true dI))) x426.1.1), some ((sh (dT true dI)) x426.1.2), some ((sh (dL (dT true dI))) x456.1.1), some ((sh (dL dI)) s479), some ((sh (dT false (dO dI))) x457), j480, j481, some ((sh (dT false (dT false dI))) x483), some ((sh (dL (dT false (dO dI)))) x486), some ((sh (dT false dI)) a597), some ((sh dB) x614), j602, j603, j604, j605, none, none]) (EX_pE (EG.frz (r := R.stk) (EG_callp (EG_consp (EG_sh (d := (dL (dT true dI))) (v := x426.1.1) rfl) (EG_consp (EG_sh (d := (dT false dI)) (v := a597) rfl) EG_nil)) rfl (ref_t_improved x426.1.1 a597)) (fz_sh (d := (dO (dT false dI)))))) fun x615 => (EX_cons (E2 := fun (w617 : ((Option (List Int)) × Unit)) => [some ((sh (dF dI)) p0), j599, some ((sh dI) x383.1), some ((sh (dL (dT true dI))) x426.1.1), some ((sh (dT true dI)) x426.1.2), some ((sh (dL (dT true dI))) x456.1.1), some ((sh (dL dI)) s479), some ((sh (dT false (dO dI))) x457), j480, j481, some ((sh (dT false (dT false dI))) x483), some ((sh (dL (dT false (dO dI)))) x486), some ((sh (dT false dI)) a597), some ((sh dB) x614), j602, j603, j604, j605, none, none]) (EX_pE (EG.frz (r := R.stk) (EG_callp (EG_consp (EG_sh (d := (dL (dT true dI))) (v := x426.1.1) rfl) (EG_consp (EG_sh (d := (dT false dI)) (v := a597) rfl) EG_nil)) rfl (ref_t_turn_for x426.1.1 a597)) (fz_sh (d := (dO (dT false dI)))))) fun x616 => EX_nil)) (fun _ => rfl) fun x619 => (SR_ifrp (EG_orp (EG_bT (EG_b2 (EG.bindp (EG_b2 (EG.bindp (EG_sh (d := (dO (dT false dI))) (v := x619.1) rfl) (EG.bindp (EG.of (e := (sh dN)) (v := ()) rfl) (op_isO (d := (dT false dI)) (fun _ => rfl) x619.1)))) (EG.bindp (EG_sh (d := dB) (v := x614) rfl) (op_ne (a := x619.1.isNone) (b := x614) EqD_bool ((fz_sh (d := dB)) _) ((fz_sh (d := dB)) _)))))) (EG_orp (EG_bT (EG_b2 (EG.bindp (EG_b2 (EG.bindp (EG.cop (fun l => l.map some) (sh (dT false (dO dI))) (EG_sh (d := (dT false dI)) (v := a597) rfl) (fun v => congrArg O.sh ((co_tup (c := some) (d := dI) (d' := (dO dI)) (fun _ => rfl)) v))) (EG.bindp (EG_sh (d := (dL (dT false (dO dI)))) (v := x486) rfl) (op_in (a := ((fun l => l.map some) a597)) (l := x486) (EqD_tup (EqD_opt EqD_int nonI1 nonI2)) (EqD_tup (EqD_opt EqD_int nonI1 nonI2)) ((fz_sh (d := (dT false (dO dI)))) _) (itP_lst ((fz_sh (d := (dL (dT false (dO dI))))) _)))))) (EG.bindp (EG_sh (d := dB) (v := x614) rfl) (op_ne (a := (memB ((fun l => l.map some) a597) x486)) (b := x614) EqD_bool ((fz_sh (d := dB)) _) ((fz_sh (d := dB)) _)))))) (EG_bT (EG_b2 (EG.bindp (EG_b2 (EG.bindp (EG_sh (d := (dO (dT false dI))) (v := x619.2.1) rfl) (EG.bindp (EG.of (e := (sh dN)) (v := ()) rfl) (op_isO (d := (dT false dI)) (fun _ => rfl) x619.2.1)))) (EG.bindp (EG_sh (d := dB) (v := x614) rfl) (op_eq (a := x619.2.1.isNone) (b := x614) EqD_bool ((fz_sh (d := dB)) _) ((fz_sh (d := dB)) _)))))))) (EX_pE (EG.of (e := (sh dB)) (v := false) rfl)) rfl (SR_ifr (EG_and (EG_bT (EG_b2 (EG.bindp (EG_sh (d := (dO (dT false dI))) (v := x619.2.1) rfl) (EG.bindp (EG.of (e := (sh dN)) (v := ()) rfl) (op_isNotO (d := (dT false dI)) (fun _ => rfl) x619.2.1))))) (EG_bT (EG_b2 (EG.bind (EG_call (EG_consp (EG_sh (d := (dL (dT true dI))) (v := x426.1.1) rfl) (EG_consm (γ := Unit) (u := ()) (EG_get (EG_sh (d := (dO (dT false dI))) (v := x619.2.1) rfl)) EG_nil)) (fun _ => rfl) (fun x620 => (ref_t_in_turn_2 x426.1.1 x620))) fun x621 => (EG.bindp (EG.cop (fun l => l.map some) (sh (dT false (dO dI))) (EG_sh (d := (dT false dI)) (v := a597) rfl) (fun v => congrArg O.sh ((co_tup (c := some) (d := dI) (d' := (dO dI)) (fun _ => rfl)) v))) (op_ne (a := x621) (b := ((fun l => l.map some) a597)) (EqD_tup (EqD_opt EqD_int nonI1 nonI2)) ((fz_sh (d := (dT false (dO dI)))) _) ((fz_sh (d := (dT false (dO dI)))) _))))))) (EX_pE (EG.of (e := (sh dB)) (v := false) rfl)) rfl (SR_ifp (B := (fun (s : Unit) (env : En) => ∃ (j657 j658 : Option O), env = [some ((sh (dF dI)) p0), j599, some ((sh dI) x383.1), some ((sh (dL (dT true dI))) x426.1.1), some ((sh (dT true dI)) x426.1.2), some ((sh (dL (dT true dI))) x456.1.1), some ((sh (dL dI)) s479), some ((sh (dT false (dO dI))) x457), j480, j481, some ((sh (dT false (dT false dI))) x483), some ((sh (dL (dT false (dO dI)))) x486), some ((sh (dT false dI)) a597), some ((sh dB) x614), some ((sh (dO (dT false dI))) x619.1), some ((sh (dO (dT false dI))) x619.2.1), j657, j658, none, none])) (EG_bT (EG_b2 (EG.bindp (EG_sh (d := (dO (dT false dI))) (v := x619.1) rfl) (EG.bindp (EG.of (e := (sh dN)) (v := ()) rfl) (op_isNotO (d := (dT false dI)) (fun _ => rfl) x619.1))))) (SR_setp (EX_pE (EG_bNp (EG_consp (EG_sh (d := (dT false dI)) (v := a597) rfl) EG_nil) (op_list (itD_tup false dI _)))) (SR_for (s0 := a597) (fun (s : (List Int)) (env : En) => ∃ (j670 : Option O), env = [some ((sh (dF dI)) p0), j599, some ((sh dI) x383.1), some ((sh (dL (dT true dI))) x426.1.1), some ((sh (dT true dI)) x426.1.2), some ((sh (dL (dT true dI))) x456.1.1), some ((sh (dL dI)) s479), some ((sh (dT false (dO dI))) x457), j480, j481, some ((sh (dT false (dT false dI))) x483), some ((sh (dL (dT false (dO dI)))) x486), some ((sh (dT false dI)) a597), some ((sh dB) x614), some ((sh (dO (dT false dI))) x619.1), some ((sh (dO (dT false dI))) x619.2.1), some ((oL (sh dI)) s), j670, none, none]) (EG_jR1 (EG_bN (EG_consm (γ := Unit) (u := ()) (EG_get (EG_sh (d := (dO (dT false dI))) (v := x619.1) rfl)) EG_nil) fun x659 => (op_lenT false dI x659))) ⟨_, rfl⟩ (fun a671 s672 e683 he => by obtain ⟨j673, rfl⟩ := he; exact ⟨_, rfl, (SR_setIxm (t := (R.bind (getM x619.1) fun x680 => (atM x680 a671))) (x := fun x679 => x679) (l := fun x679 => s672) (e := (sh dI)) (EX_pE (EG_b2 (EG.bindp (EG_sh (d := (dT false dI)) (v := a597) rfl) (EG.bind (EG_b2 (EG.bind (EG_get (EG_sh (d := (dO (dT false dI))) (v := x619.1) rfl)) fun x676 => (EG.bind (EG_b2 (EG.bindp (EG_b2 (EG.bindp (EG_sh (d := dI) (v := a671) rfl) (EG.bindp (EG.of (e := (sh dI)) (v := (1 : Int)) rfl) (EG.of (e := sh dI) (v := a671 + (1 : Int)) rfl)))) (EG.bind (EG_bN (EG_consm (γ := Unit) (u := ()) (EG_get (EG_sh (d := (dO (dT false dI))) (v := x619.1) rfl)) EG_nil) fun x674 => (op_lenT false dI x674)) fun x675 => (op_mod (a671 + (1 : Int)) x675)))) fun x677 => (op_at (itD_tup false dI _))))) fun x678 => (op_at (itD_tup false dI _)))))) (fun _ => rfl) (fun x679 => (EG_b2 (EG.bind (EG_get (EG_sh (d := (dO (dT false dI))) (v := x619.1) rfl)) fun x680 => (EG.bindp (EG_sh (d := dI) (v := a671) rfl) (op_at (itD_tup false dI _)))))) (fun _ => rfl) fun x679 l681 => (SR_nil (s := (l681 : (List Int))) ⟨_, rfl⟩))⟩) (fun s684 e683 he => by obtain ⟨j685, rfl⟩ := he; exact (SR_ifr (EG_bT (EG_b2 (EG.bind (EG_lcm (EG_jTup (EG_get (EG_sh (d := (dO (dT false dI))) (v := x619.1) rfl))) fun a686 => ⟨_, rfl, (EG_bT (EG_b2 (EG.bind (EG_idxT EqD_int (EG_b2 (EG.bindp (EG_sh (d := (dL (dT true dI))) (v := x426.1.1) rfl) (EG.bindp (EG_sh (d := dI) (v := a686) rfl) (op_at (itD_lst (dT true dI) _))))) (EG_b2 (EG.bindp (EG_var (e := (oL (sh dI))) (v := s684) rfl) (EG.bindp (EG_sh (d := dI) (v := a686) rfl) (op_at (itD_own dI _)))))) fun x687 => (EG.bind (EG_idxT EqD_int (EG_b2 (EG.bindp (EG_sh (d := (dL (dT true dI))) (v := x426.1.1) rfl) (EG.bindp (EG_sh (d := dI) (v := a686) rfl) (op_at (itD_lst (dT true dI) _))))) (EG_b2 (EG.bindp (EG_sh (d := (dT false dI)) (v := a597) rfl) (EG.bindp (EG_sh (d := dI) (v := a686) rfl) (op_at (itD_tup false dI _)))))) fun x688 => (EG.of (e := sh dB) (v := decide (x688 ≤ x687)) rfl))))), (EG_sh (d := dI) (v := a686) rfl)⟩) fun x690 => (EG.bindp (EG.cop (fun _ => ([] : List Int)) (oL (sh dI)) (EG_bLst (k := 0) EG_nil (fun _ => rfl) (fun _ => rfl) (by decide)) (fun _ => rfl)) (op_ne (a := x690) (b := ([] : List Int)) (EqD_lst EqD_int) ((fz_oL (fz_sh (d := dI))) _) ((fz_oL (fz_sh (d := dI))) _)))))) (EX_pE (EG.of (e := (sh dB)) (v := false) rfl)) rfl (SR_ifr (EG_bT (EG_b2 (EG.bindp (EG_bNp (EG_consp (EG_var (e := (oL (sh dI))) (v := s684) rfl) EG_nil) (op_sorted (itD_own dI _))) (EG.bind (EG_lstR (EG_rg1 (EG_sh (d := dI) (v := x383.1) rfl))) fun x691 => (op_ne (a := (sortI s684)) (b := x691) (EqD_lst EqD_int) ((fz_oL (fz_sh (d := dI))) _) ((fz_oL (fz_sh (d := dI))) _)))))) (EX_pE (EG.of (e := (sh dB)) (v := false) rfl)) rfl (SR_nil (s := (() : Unit)) ⟨_, _, rfl⟩)))))) (SR_nil (s := (() : Unit)) ⟨_, _, rfl⟩) (fun s692 e695 he => by obtain ⟨j693, j694, rfl⟩ := he; exact (SR_nil (s := (() : Unit)) ⟨_, _, _, _, _, _, _, rfl⟩)))))))⟩) (fun s697 e696 he => by obtain ⟨j698, j699, j700, j701, j702, j703, j704, rfl⟩ := he; exact (SR_nil (s := (() : Unit)) ⟨_, _, _, _, _, _, _, _, _, _, _, _, _, _, _, _, _, rfl⟩)))))))))))) (fun s706 e705 he => by obtain ⟨j707, j708, j709, j710, j711, j712, j713, j714, j715, j716, j717, j718, j719, j720, j721, j722, j723, rfl⟩ := he; exact (SR_retp (w := true) (EX_pE (EG.of (e := (sh dB)) (v := true) rfl)) rfl)))
end FD.K13


set_option Elab.async false
set_option linter.all false
set_option maxRecDepth 100000
namespace FD.K13
open PySem L2 FD FD.Ty
/-! dice -/
def Die (d : List Int) : Prop := ∃ a b c, d = [a, b, c]
theorem at3 (a b c : Int) : atM [a, b, c] 0 = .ok a ∧ atM [a, b, c] 1 = .ok b ∧ atM [a, b, c] 2 = .ok c := ⟨rfl, rfl, rfl⟩
theorem set3 (a b c x : Int) : setM [a, b, c] 0 x = .ok [x, b, c] ∧ setM [a, b, c] 1 x = .ok [a, x, c] ∧ setM [a, b, c] 2 x = .ok [a, b, x] := ⟨rfl, rfl, rfl⟩
theorem roll_ok {d : List Int} {m : Int} (hd : Die d) (h : 0 < m) (h2 : m ≤ 1000000000) : Ok (t_law_roll d m) fun v => (0 ≤ v.1 ∧ v.1 < m) ∧ Die v.2 := by
  obtain ⟨a, b, c, rfl⟩ := hd
  have k1 : ∀ x, modM x m = .ok (x % m) := fun x => modM_ok h
  have k2 : ∀ x, divM x m = .ok (x / m) := fun x => divM_ok h h2
  have p1 : ∀ x, 0 ≤ x % m := fun x => Int.emod_nonneg _ (by omega)
  have p2 : ∀ x, x % m < m := fun x => Int.emod_lt_of_pos _ h
  unfold t_law_roll
  by_cases hc : c = 2
  · subst hc
    exact ⟨(a % m, [a / m, b, 2]), by simp [at3, set3, k1, k2, grd], ⟨p1 a, p2 a⟩, _, _, _, rfl⟩
  · by_cases hd : c = 1 ∧ 0 < a
    · obtain ⟨rfl, ha⟩ := hd
      exact ⟨(a % m, [a / m, b, 1]), by simp [at3, set3, k1, k2, grd, ha], ⟨p1 a, p2 a⟩, _, _, _, rfl⟩
    · refine ⟨(((a * 48271 + b * 69621 + 11) % 2147483647 / 7 + (a * 48271 + b * 69621 + 11) % 2147483647) % m, [(a * 48271 + b * 69621 + 11) % 2147483647, b + 1, 0]), ?_, ⟨p1 _, p2 _⟩, _, _, _, rfl⟩
      by_cases h1 : c = 1
      · have h3 : ¬ 0 < a := fun h3 => hd ⟨h1, h3⟩
        subst h1
        simp [at3, set3, k1, k2, grd, h3]
      · simp [at3, set3, k1, k2, grd, hc, h1]
theorem dice_ok (x : Int) : Ok (t_law_dice x) Die := by
  unfold t_law_dice
  refine Ok.fin (Tr.ite (fun _ => ?_) fun _ => ?_)
  · exact ⟨_, _, _, rfl⟩
  · exact ⟨_, _, _, rfl⟩
theorem paired_all {α β : Type} {P : β → Prop} {l : List α} {r : List β} (h : Paired (fun _ b => P b) l r) : ∀ b ∈ r, P b := by
  induction h with
  | nil => intro b hb; cases hb
  | cons h1 _ ih =>
    intro b hb
    rcases List.mem_cons.mp hb with rfl | hb
    · exact h1
    · exact ih b hb
theorem rounds_ok (ns : List Int) (k : Int) (hn : ns.length ≤ 1000) : Ok (t_law_rounds ns k) fun r => ∀ d ∈ r, Die d := by
  unfold t_law_rounds
  have hc : (cutG ns none (some k)).length ≤ 1000 := by
    unfold cutG
    rw [List.length_take, List.length_drop]; omega
  refine Ok.fin (Tr.te rfl ?_)
  refine Tr.s (N' := fun (l : List Int) => l.length ≤ 1000) (Tr.ite (fun _ => ?_) fun _ => hc) fun s hs => ?_
  · exact Tr.te rfl (by show [(0 : Int)].length ≤ 1000; decide)
  · refine Tr.t (P := fun r => ∀ d ∈ r, Die d) (Ok.g (sz (by omega)) ?_) fun v hv => hv
    exact (lcM_Ok (P := fun _ d => Die d) fun a _ => dice_ok a).imp fun r h => paired_all h
/-- 0, 1, .., n - 1 -/
def nums (n : Nat) : List Int := (List.range n).map fun (i : Nat) => (i : Int)
theorem nums_len (n : Nat) : (nums n).length = n := by unfold nums; simp
/-- one is drawn, and taken out -/
theorem draw_ok {d left : List Int} (hd : Die d) (hl : left ≠ []) (h : left.length ≤ 1000) : Ok (R.bind (t_law_roll d (left.length : Int)) fun x => R.bind (atM left x.1) fun y => R.ok (y, x.2)) fun v => v.1 ∈ left ∧ Die v.2 := by
  have hp := List.length_pos_iff.mpr hl
  refine Ok.bind (roll_ok hd (by omega) (by omega)) fun v ⟨⟨h1, h2⟩, h3⟩ => ?_
  rw [atM_int h1 h2]
  exact .ok ⟨List.getElem_mem _, h3⟩
theorem full_ok {d : List Int} (hd : Die d) {n : Nat} (hn : n ≤ 100) : Ok (t_law_full d (n : Int)) fun v => v.1.Perm (nums n) ∧ Die v.2 := by
  unfold t_law_full
  rw [rngM_nat (by omega)]
  refine Ok.finx (Tr.te rfl ?_)
  refine Tr.s (N' := fun (s : List Int × List Int × List Int) => s.2.2.Perm (nums n) ∧ Die s.1) ?_ fun s hs => hs
  refine Tr.wh (fun s => (s.2.2 ++ s.2.1).Perm (nums n) ∧ Die s.1) (fun s => s.2.1.length) (fun s ⟨h1, h2⟩ => ?_) _ _ ⟨List.Perm.refl _, hd⟩ (fuelW_gt (by show ((List.range n).map _).length < 1000; rw [List.length_map, List.length_range]; omega))
  have hl := h1.length_eq
  rw [List.length_append, nums_len] at hl
  refine .ok ⟨fun hb => ?_, fun hb => ?_⟩
  · have hne : s.2.1 ≠ [] := by simpa using hb
    refine Tr.t (draw_ok h2 hne (by omega)) fun v ⟨h3, h4⟩ => ?_
    refine Tr.te (appM_ok (by omega)) (Tr.te (remM_ok h3) ⟨⟨?_, h4⟩, ?_⟩)
    · show (s.2.2 ++ [v.1] ++ s.2.1.erase v.1).Perm (nums n)
      rw [List.append_assoc]
      exact (List.Perm.append_left _ (List.perm_cons_erase h3).symm).trans h1
    · show (s.2.1.erase v.1).length < s.2.1.length
      have := List.length_pos_iff.mpr hne
      rw [List.length_erase_of_mem h3]; omega
  · have he : s.2.1 = [] := by simpa using hb
    rw [he, List.append_nil] at h1
    exact ⟨h1, h2⟩
theorem list_ok {d : List Int} (hd : Die d) {n : Nat} (hn : n ≤ 100) : Ok (t_law_list d (n : Int)) fun v => (∃ r, (v.1 ++ r).Perm (nums n)) ∧ Die v.2 := by
  unfold t_law_list
  rw [rngM_nat (by omega)]
  refine Ok.finx (Tr.te rfl ?_)
  refine Tr.s (N' := fun (s : List Int × List Int × List Int) => (∃ r, (s.2.2 ++ r).Perm (nums n)) ∧ Die s.1) ?_ fun s hs => hs
  refine Tr.t (P := fun (v : Int × List Int) => (0 ≤ v.1 ∧ v.1 < (n : Int) + 1) ∧ Die v.2) (Ok.bind (roll_ok hd (m := (n : Int) + 1) (by omega) (by omega)) fun v ⟨⟨h1, h2⟩, h3⟩ => Ok.g (okn (by omega) (by omega)) (.ok ⟨⟨h1, h2⟩, h3⟩)) fun v ⟨⟨h1, h2⟩, h3⟩ => ?_
  obtain ⟨j, hj⟩ := Int.eq_ofNat_of_zero_le h1
  refine Tr.for (fun pre rest s => (s.2.2 ++ s.2.1).Perm (nums n) ∧ Die s.1 ∧ rest.length ≤ s.2.1.length) (fun pre a rest s ⟨k1, k2, k3⟩ => ?_) (fun pre s ⟨k1, k2, _⟩ => ⟨⟨_, k1⟩, k2⟩) _ [] _ ⟨List.Perm.refl _, h3, ?_⟩
  · rw [hj, rngT_nat, List.length_map, List.length_range]
    show j ≤ ((List.range n).map _).length
    rw [List.length_map, List.length_range]; omega
  · have hl := k1.length_eq
    rw [List.length_append, nums_len] at hl
    rw [List.length_cons] at k3
    have hne : s.2.1 ≠ [] := List.length_pos_iff.mp (by omega)
    refine Tr.t (draw_ok k2 hne (by omega)) fun v ⟨h3, h4⟩ => ?_
    refine Tr.te (appM_ok (by omega)) (Tr.te (remM_ok h3) ⟨?_, h4, ?_⟩)
    · show (s.2.2 ++ [v.1] ++ s.2.1.erase v.1).Perm (nums n)
      rw [List.append_assoc]
      exact (List.Perm.append_left _ (List.perm_cons_erase h3).symm).trans k1
    · show rest.length ≤ (s.2.1.erase v.1).length
      rw [List.length_erase_of_mem h3]; omega
end FD.K13


set_option Elab.async false
set_option linter.all false
set_option maxRecDepth 100000
namespace FD.K13
open PySem L2 FD FD.Ty
/-! who lists what, who has what -/
def Lp (L : List (List Int)) (a : Int) : List Int := L[a.toNat]?.getD []
def wp (w : List Int) (a : Int) : Int := w[a.toNat]?.getD 0
theorem mem_nums {n : Nat} {a : Int} : a ∈ nums n ↔ 0 ≤ a ∧ a < n := by
  unfold nums
  rw [List.mem_map]
  constructor
  · rintro ⟨i, hi, rfl⟩
    have := List.mem_range.mp hi
    omega
  · rintro ⟨h1, h2⟩
    exact ⟨a.toNat, List.mem_range.mpr (by omega), by omega⟩
theorem nums_nodup (n : Nat) : (nums n).Nodup := by
  unfold nums
  exact List.Pairwise.map _ (fun a b h e => h (by omega)) List.nodup_range
theorem at_Lp {n : Nat} {L : List (List Int)} (h : L.length = n) {a : Int} (ha : a ∈ nums n) : atM L a = .ok (Lp L a) := by
  obtain ⟨h1, h2⟩ := mem_nums.mp ha
  rw [atM_int h1 (by omega)]
  unfold Lp
  rw [List.getElem?_eq_getElem (by omega)]; rfl
theorem at_wp {n : Nat} {w : List Int} (h : w.length = n) {a : Int} (ha : a ∈ nums n) : atM w a = .ok (wp w a) := by
  obtain ⟨h1, h2⟩ := mem_nums.mp ha
  rw [atM_int h1 (by omega)]
  unfold wp
  rw [List.getElem?_eq_getElem (by omega)]; rfl
theorem map_wp (w : List Int) : (nums w.length).map (wp w) = w := by
  unfold nums
  apply List.ext_getElem?
  intro i
  rw [List.getElem?_map, List.getElem?_map]
  by_cases h : i < w.length
  · rw [List.getElem?_range h]
    show some (wp w i) = _
    unfold wp
    rw [Int.toNat_natCast, List.getElem?_eq_getElem h]; rfl
  · rw [List.getElem?_eq_none (by rw [List.length_range]; omega), List.getElem?_eq_none (by omega)]; rfl
theorem wp_mem {n : Nat} {w : List Int} (h : w.Perm (nums n)) {a : Int} (ha : a ∈ nums n) : wp w a ∈ nums n := by
  have hl : w.length = n := by rw [h.length_eq, nums_len]
  have h1 : wp w a ∈ (nums w.length).map (wp w) := List.mem_map.mpr ⟨a, by rw [hl]; exact ha, rfl⟩
  rw [map_wp] at h1
  exact h.mem_iff.mp h1
theorem wp_sur {n : Nat} {w : List Int} (h : w.Perm (nums n)) {t : Int} (ht : t ∈ nums n) : ∃ a ∈ nums n, wp w a = t := by
  have hl : w.length = n := by rw [h.length_eq, nums_len]
  have h1 : t ∈ w := h.mem_iff.mpr ht
  rw [← map_wp w, hl] at h1
  obtain ⟨a, h2, h3⟩ := List.mem_map.mp h1
  exact ⟨a, h2, h3⟩
theorem nodup_inj {α β : Type} {f : α → β} : ∀ {l : List α}, (l.map f).Nodup → ∀ {a b : α}, a ∈ l → b ∈ l → f a = f b → a = b
  | [], _, a, b, ha, _, _ => by cases ha
  | x :: l, h, a, b, ha, hb, e => by
    rw [List.map_cons, List.nodup_cons] at h
    rcases List.mem_cons.mp ha with h1 | h1 <;> rcases List.mem_cons.mp hb with h2 | h2
    · rw [h1, h2]
    · rw [h1] at e
      exact (h.1 (List.mem_map.mpr ⟨b, h2, e.symm⟩)).elim
    · rw [h2] at e
      exact (h.1 (List.mem_map.mpr ⟨a, h1, e⟩)).elim
    · exact nodup_inj h.2 h1 h2 e
theorem wp_inj {n : Nat} {w : List Int} (h : w.Perm (nums n)) {a b : Int} (ha : a ∈ nums n) (hb : b ∈ nums n) (e : wp w a = wp w b) : a = b := by
  have hl : w.length = n := by rw [h.length_eq, nums_len]
  have h1 : ((nums n).map (wp w)).Nodup := by
    have := map_wp w
    rw [hl] at this
    rw [this]
    exact h.nodup_iff.mpr (nums_nodup n)
  exact nodup_inj h1 ha hb e
/-! taking turns -/
def itS (L : List (List Int)) (s : List (Option Int) × List Int) (a : Int) : List (Option Int) × List Int :=
  match (Lp L a).filter (fun t => !memB t s.2) with
  | [] => s
  | t :: _ => (s.1.set a.toNat (some t), s.2 ++ [t])
def inTurn (L : List (List Int)) (order : List Int) : List (Option Int) := (order.foldl (itS L) (List.replicate L.length none, [])).1
theorem itS_len (L : List (List Int)) (s : List (Option Int) × List Int) (a : Int) : (itS L s a).1.length = s.1.length ∧ (itS L s a).2.length ≤ s.2.length + 1 := by
  unfold itS
  split
  · exact ⟨rfl, by omega⟩
  · exact ⟨List.length_set, by simp⟩
theorem in_turn_ok {n : Nat} {L : List (List Int)} {order : List Int} (hn : n ≤ 1000) (hL : L.length = n) (ho : ∀ a ∈ order, a ∈ nums n) (h2 : order.length ≤ 1000) (h3 : ∀ a ∈ nums n, (Lp L a).length ≤ 1000) : t_in_turn L order = .ok (inTurn L order) := by
  unfold t_in_turn
  refine Ok.eq (Ok.fin (Tr.te (repM_one (by omega)) ?_))
  refine Tr.s (N' := fun s => s = order.foldl (itS L) (List.replicate L.length none, [])) ?_ fun s hs => by
    show s.1 = inTurn L order
    rw [hs]; rfl
  refine Tr.for (fun pre rest s => pre ++ rest = order ∧ s = pre.foldl (itS L) (List.replicate L.length none, []) ∧ s.1.length = n ∧ s.2.length ≤ pre.length) (fun pre a rest s ⟨k1, k2, k3, k4⟩ => ?_) (fun pre s ⟨k1, k2, _⟩ => by rw [List.append_nil] at k1; rw [k2, k1]) _ [] _ ⟨rfl, rfl, by rw [List.length_replicate, hL], by simp⟩
  have ha : a ∈ nums n := ho a (by rw [← k1]; simp)
  have hp : pre.length ≤ 1000 := by
    have := congrArg List.length k1
    rw [List.length_append] at this
    omega
  have e1 : (R.bind (atM L a) fun l24 => grd (szOk l24.length) (lcM (fun a23 => (R.ok (!memB a23 s.2))) (fun a23 => (R.ok a23)) l24) R.stk) = .ok ((Lp L a).filter fun t => !memB t s.2) := by
    rw [at_Lp hL ha, bind_ok, sz (by have := h3 a ha; omega), grd_true]
    exact lcM_filter fun _ _ => rfl
  refine Tr.te e1 ?_
  obtain ⟨l1, l2⟩ := itS_len L s a
  refine Tr.s (N' := fun s' => s' = itS L s a) ?_ fun s' hs' => ?_
  · unfold itS
    generalize (Lp L a).filter (fun t => !memB t s.2) = F
    cases F with
    | nil => exact rfl
    | cons t r =>
      refine Tr.ite (fun _ => ?_) fun h => by simp at h
      obtain ⟨j, rfl⟩ := Int.eq_ofNat_of_zero_le (mem_nums.mp ha).1
      have hj := (mem_nums.mp ha).2
      refine Tr.te atM_zero (Tr.te (setM_nat (by omega)) (Tr.te (v := s.2 ++ [t]) ?_ rfl))
      rw [atM_zero, bind_ok, appM_ok (by omega)]
  · show pre ++ [a] ++ rest = order ∧ (s'.1, s'.2) = (pre ++ [a]).foldl (itS L) (List.replicate L.length none, []) ∧ s'.1.length = n ∧ s'.2.length ≤ (pre ++ [a]).length
    rw [hs', List.foldl_append, ← k2]
    refine ⟨by rw [List.append_assoc]; exact k1, rfl, by rw [l1, k3], by rw [List.length_append, List.length_singleton]; omega⟩
/-! all orders -/
def pw : Nat → List Int → List (List Int)
  | 0, _ => []
  | _ + 1, [] => [[]]
  | r + 1, l => (List.range l.length).flatMap fun i => (pw r (l.eraseIdx i)).map fun q => l.getD i 0 :: q
end FD.K13


set_option Elab.async false
set_option linter.all false
set_option maxRecDepth 100000
namespace FD.K13
open PySem L2 FD FD.Ty
theorem flat_len {α β : Type} (f : α → List β) (k : Nat) : ∀ l : List α, (∀ a ∈ l, (f a).length ≤ k) → (l.flatMap f).length ≤ l.length * k
  | [], _ => by simp
  | a :: l, h => by
    rw [List.flatMap_cons, List.length_append, List.length_cons, Nat.add_mul, Nat.one_mul]
    have h1 := h a List.mem_cons_self
    have h2 := flat_len f k l fun b hb => h b (List.mem_cons_of_mem _ hb)
    omega
def fac : Nat → Nat
  | 0 => 1
  | n + 1 => (n + 1) * fac n
theorem fac_le : ∀ {n : Nat}, n ≤ 4 → fac n ≤ 24
  | 0, _ => by decide
  | 1, _ => by decide
  | 2, _ => by decide
  | 3, _ => by decide
  | 4, _ => by decide
  | n + 5, h => by omega
theorem eraseLen {l : List Int} {i : Nat} (hi : i < l.length) : (l.eraseIdx i).length = l.length - 1 := List.length_eraseIdx_of_lt hi
theorem pw_len : ∀ (r : Nat) (l : List Int), (pw r l).length ≤ fac l.length
  | 0, l => Nat.zero_le _
  | r + 1, [] => by simp [pw, fac]
  | r + 1, x :: l => by
    unfold pw
    have := flat_len (fun i => (pw r ((x :: l).eraseIdx i)).map fun q => (x :: l).getD i 0 :: q) (fac l.length) (List.range (x :: l).length) fun i hi => by
      rw [List.length_map]
      have := pw_len r ((x :: l).eraseIdx i)
      rwa [eraseLen (List.mem_range.mp hi), List.length_cons, Nat.add_sub_cancel] at this
    rw [List.length_range] at this
    exact this
theorem perm_at : ∀ {l : List Int} {i : Nat}, i < l.length → (l.getD i 0 :: l.eraseIdx i).Perm l
  | [], i, h => absurd h (Nat.not_lt_zero _)
  | x :: l, 0, _ => List.Perm.refl _
  | x :: l, i + 1, h => by
    have := perm_at (l := l) (i := i) (by simpa using h)
    rw [List.eraseIdx_cons_succ, show (x :: l).getD (i + 1) 0 = l.getD i 0 from rfl]
    exact (List.Perm.swap _ _ _).trans (this.cons x)
theorem mem_pw : ∀ (r : Nat) (l q : List Int), l.length < r → (q ∈ pw r l ↔ q.Perm l)
  | 0, l, q, h => by omega
  | r + 1, [], q, _ => by
    unfold pw
    rw [List.mem_singleton]
    exact ⟨fun h => by rw [h], fun h => h.eq_nil⟩
  | r + 1, x :: l, q, h => by
    obtain ⟨y, hy⟩ : ∃ y, y = x :: l := ⟨_, rfl⟩
    have hp : pw (r + 1) (x :: l) = (List.range (x :: l).length).flatMap fun i => (pw r ((x :: l).eraseIdx i)).map fun q => (x :: l).getD i 0 :: q := rfl
    rw [hp]
    rw [← hy] at h ⊢
    rw [List.mem_flatMap]
    constructor
    · rintro ⟨i, hi, hq⟩
      have hi := List.mem_range.mp hi
      obtain ⟨p, hp, rfl⟩ := List.mem_map.mp hq
      have := (mem_pw r (y.eraseIdx i) p (by rw [eraseLen hi]; omega)).mp hp
      exact (this.cons _).trans (perm_at hi)
    · intro hq
      cases q with
      | nil => rw [hy] at hq; exact absurd hq.symm.eq_nil (by simp)
      | cons a p =>
        have ha : a ∈ y := hq.mem_iff.mp List.mem_cons_self
        obtain ⟨i, hi, e⟩ := List.mem_iff_getElem.mp ha
        have e2 : y.getD i 0 = a := by rw [List.getD_eq_getElem?_getD, List.getElem?_eq_getElem hi]; exact e
        refine ⟨i, List.mem_range.mpr hi, List.mem_map.mpr ⟨p, (mem_pw r (y.eraseIdx i) p (by rw [eraseLen hi]; omega)).mpr ?_, by rw [e2]⟩⟩
        have := hq.trans (perm_at hi).symm
        rw [e2] at this
        exact this.cons_inv
theorem cut_lo {α : Type} (l : List α) (i : Nat) : cutG l none (some (i : Int)) = l.take i := cutG_none l i
theorem cut_hi {α : Type} (l : List α) (i : Nat) : cutG l (some ((i : Int) + 1)) none = l.drop (i + 1) := cutG_from l (i + 1)
theorem all_ways_ok : ∀ (r : Nat) (l : List Int), l.length ≤ 4 → l.length < r → t_all_ways r l = .ok (pw r l)
  | 0, l, _, h => by omega
  | r + 1, l, h4, hr => by
    unfold t_all_ways
    refine Ok.eq (Ok.fin (Tr.ite (fun hb => ?_) fun hb => ?_))
    · have : l = [] := List.length_eq_zero_iff.mp (by simpa using hb)
      rw [this]; exact rfl
    · have hne : l ≠ [] := fun e => by rw [e] at hb; simp at hb
      have hp : pw (r + 1) l = (List.range l.length).flatMap fun i => (pw r (l.eraseIdx i)).map fun q => l.getD i 0 :: q := by
        cases l with
        | nil => exact absurd rfl hne
        | cons x l => rfl
      rw [hp]
      refine Tr.s (N' := fun s => s = (List.range l.length).flatMap fun i => (pw r (l.eraseIdx i)).map fun q => l.getD i 0 :: q) ?_ fun s hs => hs
      have he : enumT l = (List.range l.length).map fun (i : Nat) => ((i : Int), l.getD i 0) := by
        unfold enumT
        apply List.ext_getElem?
        intro j
        rw [List.getElem?_mapIdx, List.getElem?_map]
        by_cases hj : j < l.length
        · rw [List.getElem?_eq_getElem hj, List.getElem?_range hj]
          simp [hj]
        · rw [List.getElem?_eq_none (by omega), List.getElem?_eq_none (by rw [List.length_range]; omega)]; rfl
      refine Tr.for (fun pre rest s => pre ++ rest = enumT l ∧ s = (List.range pre.length).flatMap fun i => (pw r (l.eraseIdx i)).map fun q => l.getD i 0 :: q) (fun pre a rest s ⟨k1, k2⟩ => ?_) (fun pre s ⟨k1, k2⟩ => ?_) _ [] _ ⟨rfl, rfl⟩
      · have hlen : pre.length < l.length := by
          have := congrArg List.length k1
          rw [List.length_append, List.length_cons, he, List.length_map, List.length_range] at this
          omega
        have ha : a = ((pre.length : Int), l.getD pre.length 0) := by
          have h1 : (pre ++ a :: rest)[pre.length]? = some a := by simp
          rw [k1, he, List.getElem?_map, List.getElem?_range hlen] at h1
          exact (Option.some.inj h1).symm
        obtain ⟨i, hi⟩ : ∃ i, pre.length = i := ⟨_, rfl⟩
        rw [hi] at ha hlen k2
        subst ha
        have hle := eraseLen hlen
        have hw := pw_len r (l.eraseIdx i)
        have hf := fac_le (n := (l.eraseIdx i).length) (by omega)
        have h1 : ([l.getD i 0] : List Int).length = 1 := rfl
        have hq : ∀ q ∈ pw r (l.eraseIdx i), q.length ≤ 4 := fun q hq => by
          have := ((mem_pw r (l.eraseIdx i) q (by omega)).mp hq).length_eq
          omega
        have hs : s.length ≤ 4 * 24 := by
          rw [k2]
          have := flat_len (fun i => (pw r (l.eraseIdx i)).map fun q => l.getD i 0 :: q) 24 (List.range i) fun j hj => by
            rw [List.length_map]
            have h1 := pw_len r (l.eraseIdx j)
            have h2 := fac_le (n := (l.eraseIdx j).length) (by rw [eraseLen (by have := List.mem_range.mp hj; omega)]; omega)
            omega
          rw [List.length_range] at this
          omega
        dsimp only
        refine Tr.te (v := (pw r (l.eraseIdx i)).map fun q => l.getD i 0 :: q) ?_ (Tr.te (extM_ok (by rw [List.length_map]; omega)) ⟨by rw [List.append_assoc]; exact k1, ?_⟩)
        · rw [cut_lo, cut_hi, sz (by simp; omega), grd_true, ← List.eraseIdx_eq_take_drop_succ, bind_ok, all_ways_ok r (l.eraseIdx i) (by omega) (by omega), bind_ok, sz (by omega), grd_true]
          refine lcM_map fun q hq' => ?_
          rw [sz (by have := hq q hq'; simp; omega)]; rfl
        · rw [List.length_append, List.length_singleton, hi, List.range_succ, List.flatMap_append, ← k2]
          simp only [List.flatMap_cons, List.flatMap_nil, List.append_nil]
      · rw [List.append_nil] at k1
        rw [k2, k1, he, List.length_map, List.length_range]
end FD.K13


set_option Elab.async false
set_option linter.all false
set_option maxRecDepth 100000
namespace FD.K13
open PySem L2 FD FD.Ty
/-- a market: everybody lists all, everybody has one -/
structure Mk (n : Nat) (L : List (List Int)) (w : List Int) : Prop where
  sm : n ≤ 100
  len : L.length = n
  pl : ∀ a ∈ nums n, (Lp L a).Perm (nums n)
  pw : w.Perm (nums n)
/-- i would rather have what j has -/
def Edge (L : List (List Int)) (w : List Int) (i j : Int) : Prop := (Lp L i).idxOf (wp w j) < (Lp L i).idxOf (wp w i)
theorem Mk.wlen {n : Nat} {L : List (List Int)} {w : List Int} (m : Mk n L w) : w.length = n := by rw [m.pw.length_eq, nums_len]
theorem Mk.llen {n : Nat} {L : List (List Int)} {w : List Int} (m : Mk n L w) {a : Int} (ha : a ∈ nums n) : (Lp L a).length = n := by rw [(m.pl a ha).length_eq, nums_len]
theorem idx_ne {x u : Int} (h : x ≠ u) (l : List Int) : (x :: l).idxOf u = l.idxOf u + 1 := by
  rw [List.idxOf_cons, show (x == u) = false from by simpa using h]; rfl
theorem filter_head {p : Int → Bool} {t u : Int} : ∀ {l r : List Int}, l.filter p = t :: r → u ∈ l → p u = true → u ≠ t → l.idxOf t < l.idxOf u
  | [], r, h, _, _, _ => by cases h
  | x :: l, r, h, hu, hp, hne => by
    by_cases hx : p x = true
    · rw [List.filter_cons_of_pos hx] at h
      injection h with h1 h2
      subst h1
      rw [List.idxOf_cons_self, idx_ne (Ne.symm hne)]
      exact Nat.succ_pos _
    · rw [List.filter_cons_of_neg hx] at h
      have hux : u ≠ x := fun e => hx (by rw [← e]; exact hp)
      have hul : u ∈ l := by
        rcases List.mem_cons.mp hu with e | e
        · exact absurd e hux
        · exact e
      have htx : x ≠ t := fun e => by
        have : t ∈ l.filter p := by rw [h]; exact List.mem_cons_self
        rw [e] at hx
        exact hx (List.mem_filter.mp this).2
      rw [idx_ne htx, idx_ne (Ne.symm hux)]
      have := filter_head h hul hp hne
      omega
/-- what each has when those of order have taken theirs -/
def Got (n : Nat) (w : List Int) (order : List Int) (got : List (Option Int)) : Prop := got.length = n ∧ ∀ a ∈ nums n, got[a.toNat]? = some (if a ∈ order then some (wp w a) else none)
theorem Got.all {n : Nat} {w order : List Int} {got : List (Option Int)} (h : Got n w order got) (hw : w.length = n) (ho : order.Perm (nums n)) : got = w.map some := by
  apply List.ext_getElem?
  intro i
  by_cases hi : i < n
  · have ha : (i : Int) ∈ nums n := mem_nums.mpr ⟨by omega, by omega⟩
    have := h.2 i ha
    rw [Int.toNat_natCast, if_pos (ho.mem_iff.mpr ha)] at this
    rw [this, List.getElem?_map]
    unfold wp
    rw [Int.toNat_natCast, List.getElem?_eq_getElem (by omega)]; rfl
  · rw [List.getElem?_eq_none (by have := h.1; omega), List.getElem?_eq_none (by rw [List.length_map]; omega)]
theorem free_iff {n : Nat} {w order left : List Int} (hw : w.Perm (nums n)) (h : (order ++ left).Perm (nums n)) {t : Int} (ht : t ∈ nums n) : memB t (left.map (wp w)) = !memB t (order.map (wp w)) := by
  have hd : (order ++ left).Nodup := h.nodup_iff.mpr (nums_nodup n)
  obtain ⟨a, ha, rfl⟩ := wp_sur hw ht
  have h1 : ∀ l : List Int, (∀ b ∈ l, b ∈ nums n) → (wp w a ∈ l.map (wp w) ↔ a ∈ l) := fun l hl => ⟨fun q => by
    obtain ⟨b, hb, e⟩ := List.mem_map.mp q
    rw [← wp_inj hw (hl b hb) ha e]; exact hb, fun q => List.mem_map.mpr ⟨a, q, rfl⟩⟩
  have hl := h1 left fun b hb => h.mem_iff.mp (List.mem_append_right _ hb)
  have ho := h1 order fun b hb => h.mem_iff.mp (List.mem_append_left _ hb)
  have hin := h.mem_iff.mpr ha
  rw [Bool.eq_iff_iff, Bool.not_eq_true', memB_true, memB_false, hl, ho]
  constructor
  · exact fun q1 q2 => (List.nodup_append.mp hd).2.2 a q2 a q1 rfl
  · intro q
    rcases List.mem_append.mp hin with z | z
    · exact absurd z q
    · exact z
def firstOf (L : List (List Int)) (free : List Int) (a : Int) : List Int := (Lp L a).filter fun t => memB t free
theorem turn_step {n : Nat} {L : List (List Int)} {w order left : List Int} {got : List (Option Int)} {g : Int} (m : Mk n L w) (h : (order ++ left).Perm (nums n)) (hg : g ∈ left) (hf : (firstOf L (left.map (wp w)) g).head? = some (wp w g)) (hG : Got n w order got) :
    itS L (got, order.map (wp w)) g = (got.set g.toNat (some (wp w g)), (order ++ [g]).map (wp w)) ∧ Got n w (order ++ [g]) (got.set g.toNat (some (wp w g))) := by
  have hgn : g ∈ nums n := h.mem_iff.mp (List.mem_append_right _ hg)
  have e : firstOf L (left.map (wp w)) g = (Lp L g).filter fun t => !memB t (order.map (wp w)) := by
    unfold firstOf
    exact List.filter_congr fun t ht => free_iff m.pw h ((m.pl g hgn).mem_iff.mp ht)
  refine ⟨?_, by rw [List.length_set]; exact hG.1, fun a ha => ?_⟩
  · unfold itS
    dsimp only
    rw [← e]
    cases q : firstOf L (left.map (wp w)) g with
    | nil => rw [q] at hf; cases hf
    | cons t r =>
      rw [q] at hf
      have : t = wp w g := Option.some.inj hf
      rw [this, List.map_append]; rfl
  · have hl := hG.1
    by_cases hag : a = g
    · rw [hag, List.getElem?_set_self (by have := mem_nums.mp hgn; omega), if_pos (by simp)]
    · have hne : g.toNat ≠ a.toNat := fun e => hag (by have := mem_nums.mp hgn; have := mem_nums.mp ha; omega)
      rw [List.getElem?_set_ne hne, hG.2 a ha]
      simp [hag]
theorem turn_for_ok {n : Nat} {L : List (List Int)} {w : List Int} (m : Mk n L w) : Ok (t_turn_for L w) fun r => match r with
    | some o => o.Perm (nums n) ∧ inTurn L o = w.map some
    | none => ∃ left : List Int, left ≠ [] ∧ (∀ i ∈ left, i ∈ nums n) ∧ ∀ i ∈ left, ∃ j ∈ left, Edge L w i j := by
  have hsm := m.sm
  unfold t_turn_for
  rw [m.len, rngM_nat (by omega)]
  refine Ok.fin (Tr.te rfl ?_)
  refine Tr.s (N' := fun (s : List Int × List Int) => s.2.Perm (nums n) ∧ inTurn L s.2 = w.map some) ?_ fun s hs => hs
  refine Tr.wh (fun s => (s.2 ++ s.1).Perm (nums n) ∧ ∃ got, s.2.foldl (itS L) (List.replicate L.length none, []) = (got, s.2.map (wp w)) ∧ Got n w s.2 got) (fun s => s.1.length) (fun s ⟨h1, got, h2, h3⟩ => ?_) _ _ ⟨List.Perm.refl _, List.replicate n none, ?_, ?_⟩ (fuelW_gt (by show ((List.range n).map _).length < 1000; rw [List.length_map, List.length_range]; omega))
  · rw [m.len]; rfl
  · refine ⟨List.length_replicate, fun a ha => ?_⟩
    have := mem_nums.mp ha
    rw [List.getElem?_replicate, if_pos (by omega)]; rfl
  · have hl := h1.length_eq
    rw [List.length_append, nums_len] at hl
    refine .ok ⟨fun hb => ?_, fun hb => ?_⟩
    · have hne : s.1 ≠ [] := by simpa using hb
      have hmem : ∀ a ∈ s.1, a ∈ nums n := fun a ha => h1.mem_iff.mp (List.mem_append_right _ ha)
      rw [sz (by omega), grd_true, lcM_map (g := wp w) fun a ha => at_wp m.wlen (hmem a ha)]
      refine Tr.te rfl ?_
      have hfm : ∀ a ∈ s.1, wp w a ∈ firstOf L (s.1.map (wp w)) a := fun a ha => by
        unfold firstOf
        rw [List.mem_filter, memB_true]
        exact ⟨(m.pl a (hmem a ha)).mem_iff.mpr (wp_mem m.pw (hmem a ha)), List.mem_map.mpr ⟨a, ha, rfl⟩⟩
      have e1 : (grd true (lcM (fun a29 => (R.bind (R.bind (R.bind (atM L a29) fun l31 => grd (szOk l31.length) (lcM (fun a30 => (R.ok (memB a30 (s.1.map (wp w))))) (fun a30 => (R.ok a30)) l31) R.stk) fun x32 => (atM x32 (0 : Int))) fun x33 => (R.bind (atM w a29) fun x34 => R.ok (decide (x33 = x34))))) (fun a29 => (R.ok a29)) s.1) R.stk) = R.ok (s.1.filter fun a => decide ((firstOf L (s.1.map (wp w)) a).head? = some (wp w a))) := by
        rw [grd_true]
        refine lcM_filter fun a ha => ?_
        rw [at_Lp m.len (hmem a ha), bind_ok, sz (by rw [m.llen (hmem a ha)]; omega), grd_true, lcM_filter (q := fun t => memB t (s.1.map (wp w))) fun _ _ => rfl]
        have := hfm a ha
        show R.bind (R.bind (R.ok (firstOf L (s.1.map (wp w)) a)) _) _ = _
        cases q : firstOf L (s.1.map (wp w)) a with
        | nil => rw [q] at this; cases this
        | cons t r =>
          rw [bind_ok, atM_zero, bind_ok, at_wp m.wlen (hmem a ha), bind_ok]
          congr 1
          exact decide_eq_decide.mpr ⟨fun e => by rw [e]; rfl, fun e => Option.some.inj e⟩
      refine Tr.te e1 ?_
      cases hgood : s.1.filter fun a => decide ((firstOf L (s.1.map (wp w)) a).head? = some (wp w a)) with
      | nil =>
        refine Tr.ite (fun _ => ?_) fun h => by simp at h
        refine ⟨s.1, hne, hmem, fun a ha => ?_⟩
        have h4 := List.filter_eq_nil_iff.mp hgood a ha
        have h5 := hfm a ha
        cases q : firstOf L (s.1.map (wp w)) a with
        | nil => rw [q] at h5; cases h5
        | cons t r =>
          rw [q] at h4
          have hta : wp w a ≠ t := fun e => h4 (by rw [e]; simp)
          have ht : t ∈ firstOf L (s.1.map (wp w)) a := by rw [q]; exact List.mem_cons_self
          unfold firstOf at ht h5
          obtain ⟨b, hb, hbt⟩ := List.mem_map.mp ((memB_true _ _).mp (List.mem_filter.mp ht).2)
          refine ⟨b, hb, ?_⟩
          unfold Edge
          rw [hbt]
          exact filter_head q (List.mem_filter.mp h5).1 (List.mem_filter.mp h5).2 hta
      | cons g r =>
        refine Tr.ite (fun h => by simp at h) fun _ => ?_
        have hgm : g ∈ s.1.filter fun a => decide ((firstOf L (s.1.map (wp w)) a).head? = some (wp w a)) := by rw [hgood]; exact List.mem_cons_self
        obtain ⟨hg, hgf⟩ := List.mem_filter.mp hgm
        obtain ⟨h6, h7⟩ := turn_step m h1 hg (of_decide_eq_true hgf) h3
        rw [atM_zero, bind_ok, appM_ok (by omega)]
        refine Tr.te rfl ?_
        rw [bind_ok, remM_ok hg]
        refine Tr.te rfl ⟨⟨?_, _, ?_, h7⟩, ?_⟩
        · show (s.2 ++ [g] ++ s.1.erase g).Perm (nums n)
          rw [List.append_assoc]
          exact (List.Perm.append_left _ (List.perm_cons_erase hg).symm).trans h1
        · show (s.2 ++ [g]).foldl (itS L) _ = _
          rw [List.foldl_append, h2]
          exact h6
        · show (s.1.erase g).length < s.1.length
          have := List.length_pos_iff.mpr hne
          rw [List.length_erase_of_mem hg]; omega
    · have he : s.1 = [] := by simpa using hb
      rw [he, List.append_nil] at h1
      refine ⟨h1, ?_⟩
      unfold inTurn
      rw [h2]
      exact h3.all m.wlen h1
end FD.K13


set_option Elab.async false
set_option linter.all false
set_option maxRecDepth 100000
namespace FD.K13
open PySem L2 FD FD.Ty
/-! dicts of places -/
theorem putG_new {κ α : Type} [DecidableEq κ] (kvs : List (κ × α)) (k : κ) (v : α) (h : ∀ p ∈ kvs, p.1 ≠ k) : putG kvs k v = kvs ++ [(k, v)] := by
  unfold putG
  rw [if_neg]
  intro hc
  rw [List.any_eq_true] at hc
  obtain ⟨p, hp, e⟩ := hc
  exact h p hp (of_decide_eq_true e)
theorem mergeG_new {κ α : Type} [DecidableEq κ] : ∀ (more kvs : List (κ × α)), (more.map (·.1)).Nodup → (∀ p ∈ kvs, ∀ q ∈ more, p.1 ≠ q.1) → mergeG kvs more = kvs ++ more
  | [], kvs, _, _ => by unfold mergeG; simp
  | q :: more, kvs, hn, h => by
    rw [List.map_cons, List.nodup_cons] at hn
    show mergeG (putG kvs q.1 q.2) more = _
    rw [putG_new kvs q.1 q.2 fun p hp => h p hp q List.mem_cons_self, mergeG_new more _ hn.2 fun p hp r hr => ?_]
    · simp
    · rcases List.mem_append.mp hp with hp | hp
      · exact h p hp r (List.mem_cons_of_mem _ hr)
      · rw [List.mem_singleton] at hp
        rw [hp]
        exact fun e => hn.1 (by
          show q.1 ∈ more.map (·.1)
          rw [show q.1 = r.1 from e]
          exact List.mem_map.mpr ⟨r, hr, rfl⟩)
/-- where each stands -/
def places (l : List Int) : List (Int × Int) := mergeG [] ((enumT l).map fun a => (a.2, a.1))
theorem look_enum (t : Int) : ∀ (l : List Int) (k : Nat), t ∈ l → look ((l.mapIdx fun i a => (((i + k : Nat) : Int), a)).map fun a => (a.2, a.1)) t = some ((l.idxOf t + k : Nat) : Int)
  | [], k, h => by cases h
  | x :: l, k, h => by
    rw [List.mapIdx_cons, List.map_cons]
    unfold look
    rw [List.find?_cons]
    by_cases hx : x = t
    · subst hx
      simp
    · have ht : t ∈ l := by
        rcases List.mem_cons.mp h with e | e
        · exact absurd e.symm hx
        · exact e
      simp only [hx, decide_false]
      have := look_enum t l (k + 1) ht
      unfold look at this
      rw [show (fun (i : Nat) (a : Int) => (((i + 1 + k : Nat) : Int), a)) = fun i a => (((i + (k + 1) : Nat) : Int), a) from by funext i a; rw [show i + 1 + k = i + (k + 1) by omega], this, idx_ne hx, show l.idxOf t + 1 + k = l.idxOf t + (k + 1) by omega]
theorem places_eq {l : List Int} (h : l.Nodup) : places l = (enumT l).map fun a => (a.2, a.1) := by
  unfold places
  rw [mergeG_new _ [] ?_ fun p hp => by cases hp]
  · rfl
  · rw [List.map_map]
    have : ((fun (p : Int × Int) => p.1) ∘ fun (a : Int × Int) => (a.2, a.1)) = fun a => a.2 := rfl
    rw [this]
    have : (enumT l).map (fun a => a.2) = l := by
      unfold enumT
      apply List.ext_getElem?
      intro i
      rw [List.getElem?_map, List.getElem?_mapIdx]
      cases l[i]? <;> rfl
    rw [this]; exact h
theorem look_places {l : List Int} (h : l.Nodup) {t : Int} (ht : t ∈ l) : look (places l) t = some (l.idxOf t : Int) := by
  rw [places_eq h]
  exact look_enum t l 0 ht
theorem wish_ok {l : List Int} (h : l.length ≤ 1000) : t_Wish___init__ l = .ok ((), ⟨l, places l⟩) := by
  unfold t_Wish___init__
  have : (enumT l).length ≤ 1000 := by unfold enumT; rw [List.length_mapIdx]; exact h
  rw [sz (by omega), grd_true, bind_ok]; rfl
theorem take_iff {l : List Int} {t u : Int} : u ∈ l.take (l.idxOf t) ↔ u ∈ l ∧ l.idxOf u < l.idxOf t := by
  induction l with
  | nil => simp
  | cons x l ih =>
    by_cases hx : x = t
    · subst hx
      simp
    · rw [idx_ne hx, List.take_succ_cons, List.mem_cons, List.mem_cons, ih]
      by_cases hu : u = x
      · subst hu
        simp
      · rw [idx_ne (Ne.symm hu)]
        simp [hu]
theorem ahead_ok {l : List Int} (h : l.Nodup) (hl : l.length ≤ 1000) {t : Int} (ht : t ∈ l) : ∃ b, t_Wish_ahead_of ⟨l, places l⟩ t = .ok (b, l.take (l.idxOf t)) := by
  have e1 : t_Wish_rank ⟨l, places l⟩ t = .ok (some (l.idxOf t : Int)) := by
    unfold t_Wish_rank
    show R.ok (look (places l) t) = _
    rw [look_places h ht]
  refine ⟨wholeG l.length none (some (l.idxOf t : Int)) && true, ?_⟩
  unfold t_Wish_ahead_of
  rw [e1]
  show R.ok (wholeG l.length none (some (l.idxOf t : Int)) && true, cutG l none (some (l.idxOf t : Int))) = _
  rw [cut_lo]
/-! rings -/
section
variable (n : Nat) (L : List (List Int)) (w : List Int)
def Ch : List Int → Prop
  | [] => True
  | [_] => True
  | a :: b :: l => Edge L w a b ∧ Ch (b :: l)
theorem Ch_snoc {p : List Int} (hp : p ≠ []) (x : Int) : Ch L w (p ++ [x]) ↔ Ch L w p ∧ Edge L w (p.getLast hp) x := by
  induction p with
  | nil => exact absurd rfl hp
  | cons a p ih =>
    cases p with
    | nil => show (Edge L w a x ∧ True) ↔ (True ∧ Edge L w a x); simp
    | cons b p =>
      have := ih (by simp)
      show (Edge L w a b ∧ Ch L w (b :: p ++ [x])) ↔ ((Edge L w a b ∧ Ch L w (b :: p)) ∧ _)
      rw [this, List.getLast_cons (List.cons_ne_nil b p)]
      exact and_assoc.symm
/-- a way from its least one -/
structure Way (s : Int) (p : List Int) : Prop where
  hd : p.head? = some s
  nd : p.Nodup
  up : ∀ x ∈ p.tail, s < x
  mem : ∀ x ∈ p, x ∈ nums n
  ch : Ch L w p
def Closes (s : Int) (p : List Int) : Prop := 1 < p.length ∧ ∃ hp : p ≠ [], Edge L w (p.getLast hp) s
/-- some ring goes on from p -/
def Ext (s : Int) (p : List Int) : Prop := ∃ q, Way n L w s (p ++ q) ∧ Closes L w s (p ++ q)
end
theorem len_le : ∀ {l m : List Int}, l.Nodup → (∀ x ∈ l, x ∈ m) → l.length ≤ m.length
  | [], m, _, _ => Nat.zero_le _
  | a :: l, m, h, hs => by
    rw [List.nodup_cons] at h
    have ha := hs a List.mem_cons_self
    have := len_le (l := l) (m := m.erase a) h.2 fun x hx => (List.mem_erase_of_ne (fun e => h.1 (by rw [← e]; exact hx))).mpr (hs x (List.mem_cons_of_mem _ hx))
    rw [List.length_erase_of_mem ha] at this
    have := List.length_pos_iff.mpr (List.ne_nil_of_mem ha)
    rw [List.length_cons]; omega
def cst : Nat → Nat
  | 0 => 1
  | k + 1 => 1 + (k + 1) * cst k
def mu (n : Nat) (ways : List (List Int)) : Nat := (ways.map fun p => cst (n - p.length)).sum
end FD.K13


set_option Elab.async false
set_option linter.all false
set_option maxRecDepth 100000
namespace FD.K13
open PySem L2 FD FD.Ty
/-- who owns it -/
def own (w : List Int) (t : Int) : Int := (w.idxOf t : Int)
theorem own_wp {n : Nat} {w : List Int} (h : w.Perm (nums n)) {a : Int} (ha : a ∈ nums n) : own w (wp w a) = a := by
  have hl : w.length = n := by rw [h.length_eq, nums_len]
  have hm : wp w a ∈ w := h.mem_iff.mpr (wp_mem h ha)
  have hlt := List.idxOf_lt_length_of_mem hm
  have hb : own w (wp w a) ∈ nums n := mem_nums.mpr ⟨by unfold own; omega, by unfold own; omega⟩
  refine wp_inj h hb ha ?_
  show w[(own w (wp w a)).toNat]?.getD 0 = wp w a
  unfold own
  rw [Int.toNat_natCast, List.getElem?_eq_getElem hlt, List.getElem_idxOf]; rfl
theorem wp_own {n : Nat} {w : List Int} (h : w.Perm (nums n)) {t : Int} (ht : t ∈ nums n) : own w t ∈ nums n ∧ wp w (own w t) = t := by
  obtain ⟨a, ha, rfl⟩ := wp_sur h ht
  rw [own_wp h ha]
  exact ⟨ha, rfl⟩
/-- what a would rather have -/
def aheadT (L : List (List Int)) (w : List Int) (a : Int) : List Int := (Lp L a).take ((Lp L a).idxOf (wp w a))
/-- whom a way may go on to -/
def exts (L : List (List Int)) (w : List Int) (s : Int) (p : List Int) (l : List Int) : List Int := (l.map (own w)).filter fun o => decide (s < o) && !memB o p
theorem ahead_edge {n : Nat} {L : List (List Int)} {w : List Int} (m : Mk n L w) {a t : Int} (ha : a ∈ nums n) : t ∈ aheadT L w a ↔ t ∈ nums n ∧ Edge L w a (own w t) := by
  unfold aheadT Edge
  rw [take_iff, (m.pl a ha).mem_iff]
  constructor
  · rintro ⟨h1, h2⟩
    rw [(wp_own m.pw h1).2]; exact ⟨h1, h2⟩
  · rintro ⟨h1, h2⟩
    rw [(wp_own m.pw h1).2] at h2; exact ⟨h1, h2⟩
theorem exts_nodup {n : Nat} {L : List (List Int)} {w : List Int} (m : Mk n L w) {s a : Int} {p : List Int} (ha : a ∈ nums n) : (exts L w s p (aheadT L w a)).Nodup := by
  unfold exts
  refine List.Nodup.sublist List.filter_sublist ?_
  have h1 : (aheadT L w a).Nodup := ((m.pl a ha).nodup_iff.mpr (nums_nodup n)).sublist (List.take_sublist _ _)
  have h2 : ∀ (l : List Int), (∀ t ∈ l, t ∈ nums n) → l.Nodup → (l.map (own w)).Nodup := fun l => by
    induction l with
    | nil => intro _ _; exact List.nodup_nil
    | cons t l ih =>
      intro hm hn
      rw [List.nodup_cons] at hn
      rw [List.map_cons, List.nodup_cons]
      refine ⟨fun q => ?_, ih (fun u hu => hm u (List.mem_cons_of_mem _ hu)) hn.2⟩
      obtain ⟨u, hu, e⟩ := List.mem_map.mp q
      have := (wp_own m.pw (hm t List.mem_cons_self)).2
      rw [← e, (wp_own m.pw (hm u (List.mem_cons_of_mem _ hu))).2] at this
      rw [this] at hu
      exact hn.1 hu
  exact h2 _ (fun t ht => ((ahead_edge m ha).mp ht).1) h1
theorem head_app {p q : List Int} (hp : p ≠ []) : (p ++ q).head? = p.head? := by
  cases p with
  | nil => exact absurd rfl hp
  | cons a p => rfl
theorem last_mem {p : List Int} (hp : p ≠ []) : p.getLast hp ∈ p := List.getLast_mem hp
theorem Way.ne {n : Nat} {L : List (List Int)} {w : List Int} {s : Int} {p : List Int} (h : Way n L w s p) : p ≠ [] := fun e => by have := h.hd; rw [e] at this; cases this
theorem mem_exts {n : Nat} {L : List (List Int)} {w : List Int} (m : Mk n L w) {s x : Int} {p : List Int} (h : Way n L w s p) : x ∈ exts L w s p (aheadT L w (p.getLast h.ne)) ↔ Way n L w s (p ++ [x]) := by
  have hl : p.getLast h.ne ∈ nums n := h.mem _ (List.getLast_mem _)
  unfold exts
  rw [List.mem_filter, List.mem_map, Bool.and_eq_true, decide_eq_true_eq, Bool.not_eq_true', memB_false]
  constructor
  · rintro ⟨⟨t, ht, rfl⟩, h1, h2⟩
    obtain ⟨h3, h4⟩ := (ahead_edge m hl).mp ht
    have hne := h.ne
    refine ⟨?_, ?_, ?_, ?_, (Ch_snoc L w h.ne _).mpr ⟨h.ch, h4⟩⟩
    · rw [head_app h.ne]; exact h.hd
    · rw [List.nodup_append]
      refine ⟨h.nd, by simp, fun a ha b hb e => ?_⟩
      rw [List.mem_singleton] at hb
      rw [e, hb] at ha
      exact h2 ha
    · intro y hy
      rw [List.tail_append_of_ne_nil h.ne] at hy
      rcases List.mem_append.mp hy with hy | hy
      · exact h.up y hy
      · rw [List.mem_singleton.mp hy]; exact h1
    · intro y hy
      rcases List.mem_append.mp hy with hy | hy
      · exact h.mem y hy
      · rw [List.mem_singleton.mp hy]; exact (wp_own m.pw h3).1
  · intro h1
    have hx : x ∈ nums n := h1.mem x (by simp)
    refine ⟨⟨wp w x, (ahead_edge m hl).mpr ⟨wp_mem m.pw hx, ?_⟩, own_wp m.pw hx⟩, ?_, ?_⟩
    · rw [own_wp m.pw hx]
      exact ((Ch_snoc L w h.ne x).mp h1.ch).2
    · refine h1.up x ?_
      rw [List.tail_append_of_ne_nil h.ne]
      simp
    · intro hxp
      have := h1.nd
      rw [List.nodup_append] at this
      exact this.2.2 x hxp x (by simp) rfl
theorem closes_iff {n : Nat} {L : List (List Int)} {w : List Int} (m : Mk n L w) {s : Int} {p : List Int} (h : Way n L w s p) (hs : s ∈ nums n) : Closes L w s p ↔ ∃ t ∈ aheadT L w (p.getLast h.ne), own w t = s ∧ 1 < p.length := by
  have hl : p.getLast h.ne ∈ nums n := h.mem _ (List.getLast_mem _)
  constructor
  · rintro ⟨h1, hp, h2⟩
    exact ⟨wp w s, (ahead_edge m hl).mpr ⟨wp_mem m.pw hs, by rw [own_wp m.pw hs]; exact h2⟩, own_wp m.pw hs, h1⟩
  · rintro ⟨t, ht, h1, h2⟩
    have := ((ahead_edge m hl).mp ht).2
    rw [h1] at this
    exact ⟨h2, h.ne, this⟩
/-- a way is cut short: it closes, or goes on by one -/
theorem ext_step {n : Nat} {L : List (List Int)} {w : List Int} (m : Mk n L w) {s : Int} {p : List Int} (h : Way n L w s p) (he : Ext n L w s p) : Closes L w s p ∨ ∃ x ∈ exts L w s p (aheadT L w (p.getLast h.ne)), Ext n L w s (p ++ [x]) := by
  obtain ⟨q, h1, h2⟩ := he
  cases q with
  | nil => rw [List.append_nil] at h2; exact .inl h2
  | cons x q =>
    right
    have e : p ++ x :: q = (p ++ [x]) ++ q := by simp
    rw [e] at h1 h2
    have hw : Way n L w s (p ++ [x]) := by
      have hne : p ++ [x] ≠ [] := by simp
      refine ⟨?_, ?_, ?_, ?_, ?_⟩
      · rw [← h1.hd, head_app hne]
      · exact h1.nd.sublist (List.sublist_append_left _ _)
      · intro y hy
        refine h1.up y ?_
        rw [List.tail_append_of_ne_nil hne]
        exact List.mem_append_left _ hy
      · exact fun y hy => h1.mem y (List.mem_append_left _ hy)
      · have : ∀ (a b : List Int), Ch L w (a ++ b) → Ch L w a := fun a => by
          induction a with
          | nil => intro _ _; trivial
          | cons y a ih =>
            intro b hb
            cases a with
            | nil => trivial
            | cons z a => exact ⟨hb.1, ih b hb.2⟩
        exact this _ _ h1.ch
    exact ⟨x, (mem_exts m h).mpr hw, q, h1, h2⟩
theorem cst_pos : ∀ k, 0 < cst k
  | 0 => by decide
  | k + 1 => by unfold cst; omega
theorem mu_app (n : Nat) (a b : List (List Int)) : mu n (a ++ b) = mu n a + mu n b := by unfold mu; rw [List.map_append, List.sum_append]
theorem mu_exts {n : Nat} {L : List (List Int)} {w : List Int} (m : Mk n L w) {s : Int} {p : List Int} (h : Way n L w s p) : mu n ((exts L w s p (aheadT L w (p.getLast h.ne))).map fun x => p ++ [x]) < cst (n - p.length) := by
  obtain ⟨E, hE⟩ : ∃ E, E = exts L w s p (aheadT L w (p.getLast h.ne)) := ⟨_, rfl⟩
  have hl : p.getLast h.ne ∈ nums n := h.mem _ (List.getLast_mem _)
  have hn := exts_nodup (s := s) (p := p) m hl
  have hw : ∀ x ∈ exts L w s p (aheadT L w (p.getLast h.ne)), Way n L w s (p ++ [x]) := fun x hx => (mem_exts m h).mp hx
  rw [← hE] at hn hw ⊢
  have hlen : (p ++ E).length ≤ n := by
    rw [← nums_len n]
    refine len_le ?_ fun x hx => ?_
    · rw [List.nodup_append]
      refine ⟨h.nd, hn, fun a ha b hb e => ?_⟩
      have := (hw b hb).nd
      rw [List.nodup_append] at this
      exact this.2.2 a ha b (by simp) e
    · rcases List.mem_append.mp hx with hx | hx
      · exact h.mem x hx
      · exact (hw x hx).mem x (by simp)
  rw [List.length_append] at hlen
  have h1 : ∀ l : List Int, mu n (l.map fun x => p ++ [x]) = l.length * cst (n - (p.length + 1)) := fun l => by
    induction l with
    | nil => simp [mu]
    | cons x l ih =>
      have : mu n ((x :: l).map fun x => p ++ [x]) = cst (n - (p ++ [x]).length) + mu n (l.map fun x => p ++ [x]) := rfl
      rw [this, ih, List.length_append, List.length_singleton, List.length_cons, Nat.add_mul, Nat.one_mul]
      omega
  rw [h1]
  cases hk : n - p.length with
  | zero =>
    have : E.length = 0 := by omega
    rw [this, Nat.zero_mul]; exact cst_pos 0
  | succ k =>
    rw [show n - (p.length + 1) = k by omega]
    show E.length * cst k < 1 + (k + 1) * cst k
    have : E.length ≤ k + 1 := by omega
    have := Nat.mul_le_mul_right (cst k) this
    omega
end FD.K13


set_option Elab.async false
set_option linter.all false
set_option maxRecDepth 100000
namespace FD.K13
open PySem L2 FD FD.Ty
theorem lookM_own {w : List Int} (h : w.Nodup) {t : Int} (ht : t ∈ w) : lookM (places w) t = .ok (own w t) := by
  unfold lookM
  rw [look_places h ht]; rfl
theorem len_mu (n : Nat) : ∀ ways : List (List Int), ways.length ≤ mu n ways
  | [] => Nat.zero_le _
  | p :: ways => by
    have := len_mu n ways
    have := cst_pos (n - p.length)
    show ways.length + 1 ≤ cst (n - p.length) + mu n ways
    omega
theorem improved_ok {n : Nat} {L : List (List Int)} {w : List Int} (m : Mk n L w) (h4 : n ≤ 4) : Ok (t_improved L w) fun r => match r with
    | some p => ∃ s ∈ nums n, Way n L w s p ∧ Closes L w s p
    | none => ∀ s ∈ nums n, ¬ Ext n L w s [s] := by
  have hwn : w.Nodup := m.pw.nodup_iff.mpr (nums_nodup n)
  have hLm : ∀ l ∈ L, l.length = n ∧ l.Nodup := fun l hl => by
    obtain ⟨i, hi, e⟩ := List.mem_iff_getElem.mp hl
    have ha : (i : Int) ∈ nums n := mem_nums.mpr ⟨by omega, by rw [m.len] at hi; omega⟩
    have : Lp L i = l := by
      unfold Lp
      rw [Int.toNat_natCast, List.getElem?_eq_getElem hi, e]; rfl
    rw [← this]
    exact ⟨m.llen ha, (m.pl _ ha).nodup_iff.mpr (nums_nodup n)⟩
  unfold t_improved
  rw [sz (by rw [m.len]; omega), grd_true, lc0_eq (g := fun l => (⟨l, places l⟩ : Wish)) fun l hl => by rw [wish_ok (by rw [(hLm l hl).1]; omega), bind_ok]; rfl]
  refine Ok.fin (Tr.te rfl (Tr.te (v := places w) ?_ ?_))
  · rw [sz (by unfold enumT; rw [List.length_mapIdx, m.wlen]; omega), grd_true, bind_ok]; rfl
  refine Tr.s (N' := fun _ => ∀ s ∈ nums n, ¬ Ext n L w s [s]) ?_ fun _ h => h
  rw [m.len, rngT_nat, okn (by omega) (by omega), grd_true]
  refine Tr.te rfl ?_
  refine Tr.for (fun pre rest _ => pre ++ rest = nums n ∧ ∀ s ∈ pre, ¬ Ext n L w s [s]) (fun pre s rest _ ⟨k1, k2⟩ => ?_) (fun pre _ ⟨k1, k2⟩ => by rw [List.append_nil] at k1; rw [← k1]; exact k2) _ [] _ ⟨rfl, fun _ h => by cases h⟩
  have hs : s ∈ nums n := by rw [← k1]; simp
  have hw0 : Way n L w s [s] := ⟨rfl, by simp, fun x hx => (by cases hx), fun x hx => (by rw [List.mem_singleton.mp hx]; exact hs), trivial⟩
  have hmu : mu n [[s]] ≤ 100 := by
    show cst (n - 1) + 0 ≤ 100
    have : ∀ k, k ≤ 3 → cst k + 0 ≤ 100 := by decide
    exact this (n - 1) (by omega)
  refine Tr.te rfl ?_
  refine Tr.s (N' := fun _ => ¬ Ext n L w s [s]) ?_ fun _ hq => ⟨by rw [List.append_assoc]; exact k1, fun s' hs' => ?_⟩
  · refine Tr.wh (fun ways => (∀ p ∈ ways, Way n L w s p) ∧ (Ext n L w s [s] → ∃ p ∈ ways, Ext n L w s p) ∧ mu n ways ≤ 100) (mu n) (fun ways ⟨i1, i2, i3⟩ => .ok ⟨fun hb => ?_, fun hb => ?_⟩) _ _ ⟨fun p hp => by rw [List.mem_singleton.mp hp]; exact hw0, fun h => ⟨_, List.mem_singleton.mpr rfl, h⟩, Nat.le_of_lt_succ (Nat.lt_succ_of_le hmu)⟩ (fuelW_gt (by omega))
    · cases ways with
      | nil => simp at hb
      | cons p ways =>
        have hp := i1 p List.mem_cons_self
        have hl : p.getLast hp.ne ∈ nums n := hp.mem _ (List.getLast_mem _)
        refine Tr.te popM_zero ?_
        dsimp only
        have hx3 : atM (L.map fun l => (⟨l, places l⟩ : Wish)) (p.getLast hp.ne) = .ok ⟨Lp L (p.getLast hp.ne), places (Lp L (p.getLast hp.ne))⟩ := by
          obtain ⟨q1, q2⟩ := mem_nums.mp hl
          obtain ⟨i, hi⟩ := Int.eq_ofNat_of_zero_le q1
          rw [hi]
          refine atM_some ?_
          have hiL : i < L.length := by rw [m.len]; omega
          rw [List.getElem?_map, List.getElem?_eq_getElem hiL]
          unfold Lp
          rw [Int.toNat_natCast, List.getElem?_eq_getElem hiL]; rfl
        obtain ⟨b, hb2⟩ := ahead_ok ((m.pl _ hl).nodup_iff.mpr (nums_nodup n)) (by rw [m.llen hl]; omega) ((m.pl _ hl).mem_iff.mpr (wp_mem m.pw hl))
        rw [atM_last hp.ne, bind_ok, hx3, bind_ok, bind_ok, at_wp m.wlen hl, bind_ok, hb2, bind_ok]
        have hat : ∀ t ∈ aheadT L w (p.getLast hp.ne), t ∈ nums n := fun t ht => ((ahead_edge m hl).mp ht).1
        have hpl : p.length ≤ n := by
          rw [← nums_len n]
          exact len_le hp.nd hp.mem
        refine Tr.s (N' := fun ways' => (∀ t ∈ aheadT L w (p.getLast hp.ne), ¬ (own w t = s ∧ 1 < p.length)) ∧ ways' = ways ++ (exts L w s p (aheadT L w (p.getLast hp.ne))).map fun x => p ++ [x]) ?_ fun ways' ⟨j1, j2⟩ => ?_
        · refine Tr.te (v := aheadT L w (p.getLast hp.ne)) rfl ?_
          refine Tr.for (fun pre rest ways' => pre ++ rest = aheadT L w (p.getLast hp.ne) ∧ (∀ t ∈ pre, ¬ (own w t = s ∧ 1 < p.length)) ∧ ways' = ways ++ (exts L w s p pre).map fun x => p ++ [x]) (fun pre t rest ways' ⟨c1, c2, c3⟩ => ?_) (fun pre ways' ⟨c1, c2, c3⟩ => by rw [List.append_nil] at c1; rw [← c1]; exact ⟨c2, c3⟩) _ [] _ ⟨rfl, fun t h => (by cases h), by simp [exts]⟩
          have htm : t ∈ aheadT L w (p.getLast hp.ne) := by rw [← c1]; simp
          have htn := hat t htm
          have hlk := lookM_own hwn (m.pw.mem_iff.mpr htn)
          have ho := (wp_own m.pw htn).1
          rw [hlk]
          simp only [bind_ok]
          refine Tr.te (v := decide (own w t = s) && decide (1 < (p.length : Int))) (by cases decide (own w t = s) <;> rfl) (Tr.ite (fun hc => ?_) fun hc => ?_)
          · rw [Bool.and_eq_true, decide_eq_true_eq, decide_eq_true_eq] at hc
            exact ⟨s, hs, hp, (closes_iff m hp hs).mpr ⟨t, htm, hc.1, by omega⟩⟩
          · have hnc : ¬ (own w t = s ∧ 1 < p.length) := fun hq => by
              rw [Bool.and_eq_false_iff, decide_eq_false_iff_not, decide_eq_false_iff_not] at hc
              rcases hc with hc | hc
              · exact hc hq.1
              · exact hc (by omega)
            have hpre : ∀ u ∈ pre ++ [t], ¬ (own w u = s ∧ 1 < p.length) := fun u hu => by
              rcases List.mem_append.mp hu with hu | hu
              · exact c2 u hu
              · rw [List.mem_singleton.mp hu]; exact hnc
            have hex : exts L w s p (pre ++ [t]) = exts L w s p pre ++ if decide (s < own w t) && !memB (own w t) p then [own w t] else [] := by
              unfold exts
              rw [List.map_append, List.filter_append]
              congr 1
              rw [List.map_cons, List.map_nil, List.filter_cons]
              cases decide (s < own w t) && !memB (own w t) p <;> rfl
            refine Tr.s (N' := fun ways2 => ways2 = ways ++ (exts L w s p (pre ++ [t])).map fun x => p ++ [x]) ?_ fun ways2 hq => ⟨by rw [List.append_assoc]; exact c1, hpre, hq⟩
            refine Tr.te (v := decide (s < own w t) && !memB (own w t) p) (by cases decide (s < own w t) <;> rfl) (Tr.ite (fun hc => ?_) fun hc => ?_)
            · have hlen : ways'.length ≤ 100000 := by
                have h1 := len_mu n (p :: ways)
                have h2 : (exts L w s p pre).length ≤ pre.length := by
                  unfold exts
                  refine Nat.le_trans (List.length_filter_le _ _) ?_
                  rw [List.length_map]; exact Nat.le_refl _
                have h3 : pre.length ≤ (aheadT L w (p.getLast hp.ne)).length := by rw [← c1, List.length_append]; omega
                have h5 : (aheadT L w (p.getLast hp.ne)).length ≤ n := by
                  unfold aheadT
                  rw [List.length_take, m.llen hl]; omega
                rw [List.length_cons] at h1
                rw [c3, List.length_append, List.length_map]
                omega
              rw [sz (by rw [List.length_singleton]; omega), grd_true, bind_ok, appM_ok hlen]
              refine Tr.te rfl ?_
              show ways' ++ [p ++ [own w t]] = _
              rw [hex, hc, c3]
              simp
            · show ways' = _
              rw [hex, hc, c3]
              simp
        · have hmm : mu n ways' < mu n (p :: ways) := by
            rw [j2, mu_app]
            have := mu_exts m hp
            show mu n ways + _ < cst (n - p.length) + mu n ways
            omega
          refine ⟨⟨fun q hq => ?_, fun he => ?_, by omega⟩, hmm⟩
          · rw [j2] at hq
            rcases List.mem_append.mp hq with hq | hq
            · exact i1 q (List.mem_cons_of_mem _ hq)
            · obtain ⟨x, hx, rfl⟩ := List.mem_map.mp hq
              exact (mem_exts m hp).mp hx
          · obtain ⟨q, hq, hqe⟩ := i2 he
            rcases List.mem_cons.mp hq with rfl | hq
            · rcases ext_step m hp hqe with hcl | ⟨x, hx, hxe⟩
              · obtain ⟨t, ht, h1⟩ := (closes_iff m hp hs).mp hcl
                exact absurd h1 (j1 t ht)
              · exact ⟨_, by rw [j2]; exact List.mem_append_right _ (List.mem_map.mpr ⟨x, hx, rfl⟩), hxe⟩
            · exact ⟨q, by rw [j2]; exact List.mem_append_left _ hq, hqe⟩
    · have : ways = [] := by simpa using hb
      rw [this] at i2
      exact fun he => by obtain ⟨p, hp, _⟩ := i2 he; cases hp
  · rcases List.mem_append.mp hs' with hs' | hs'
    · exact k2 s' hs'
    · rw [List.mem_singleton.mp hs']; exact hq
end FD.K13


set_option Elab.async false
set_option linter.all false
set_option maxRecDepth 100000
namespace FD.K13
open PySem L2 FD FD.Ty
theorem least {P : Nat → Prop} (h : ∃ k, P k) : ∃ k, P k ∧ ∀ j, j < k → ¬ P j := by
  obtain ⟨k, hk⟩ := h
  induction k using Nat.strongRecOn with
  | ind k ih =>
    by_cases q : ∃ j, j < k ∧ P j
    · obtain ⟨j, h1, h2⟩ := q
      exact ih j h1 h2
    · exact ⟨k, hk, fun j h1 h2 => q ⟨j, h1, h2⟩⟩
/-- from one to the next -/
def it (f : Int → Int) (s : Int) : Nat → Int
  | 0 => s
  | k + 1 => f (it f s k)
theorem it_add (f : Int → Int) (s : Int) {a b : Nat} (h : it f s a = it f s b) : ∀ j, it f s (a + j) = it f s (b + j)
  | 0 => h
  | j + 1 => by
    show f (it f s (a + j)) = f (it f s (b + j))
    rw [it_add f s h j]
def pth (g : Nat → Int) : Nat → Nat → List Int
  | _, 0 => []
  | a, k + 1 => g a :: pth g (a + 1) k
theorem mem_pth {g : Nat → Int} {x : Int} : ∀ {k a : Nat}, x ∈ pth g a k ↔ ∃ i, a ≤ i ∧ i < a + k ∧ x = g i
  | 0, a => ⟨fun h => (by cases h), fun ⟨i, h1, h2, _⟩ => (by omega)⟩
  | k + 1, a => by
    show x ∈ g a :: pth g (a + 1) k ↔ _
    rw [List.mem_cons, mem_pth]
    constructor
    · rintro (h | ⟨i, h1, h2, h3⟩)
      · exact ⟨a, by omega, by omega, h⟩
      · exact ⟨i, by omega, by omega, h3⟩
    · rintro ⟨i, h1, h2, h3⟩
      by_cases e : i = a
      · left; rw [h3, e]
      · exact .inr ⟨i, by omega, by omega, h3⟩
theorem pth_len {g : Nat → Int} : ∀ {k a : Nat}, (pth g a k).length = k
  | 0, _ => rfl
  | k + 1, a => by show (pth g (a + 1) k).length + 1 = k + 1; rw [pth_len]
theorem pth_nodup {g : Nat → Int} {m : Nat} (hg : ∀ i j, i < j → j < m → g i ≠ g j) : ∀ {k a : Nat}, a + k ≤ m → (pth g a k).Nodup
  | 0, _, _ => List.nodup_nil
  | k + 1, a, h => by
    show (g a :: pth g (a + 1) k).Nodup
    rw [List.nodup_cons]
    refine ⟨fun q => ?_, pth_nodup hg (by omega)⟩
    obtain ⟨i, h1, h2, h3⟩ := mem_pth.mp q
    exact hg a i (by omega) (by omega) h3
theorem pth_last {g : Nat → Int} : ∀ {k a : Nat} (h : pth g a (k + 1) ≠ []), (pth g a (k + 1)).getLast h = g (a + k)
  | 0, a, _ => rfl
  | k + 1, a, h => by
    have hne : pth g (a + 1) (k + 1) ≠ [] := by show g (a + 1) :: _ ≠ []; simp
    show (g a :: pth g (a + 1) (k + 1)).getLast _ = _
    rw [List.getLast_cons hne, pth_last hne, show a + 1 + k = a + (k + 1) by omega]
theorem pth_ch {L : List (List Int)} {w : List Int} {g : Nat → Int} (hg : ∀ i, Edge L w (g i) (g (i + 1))) : ∀ {k a : Nat}, Ch L w (pth g a k)
  | 0, _ => trivial
  | 1, _ => trivial
  | k + 2, a => by
    show Edge L w (g a) (g (a + 1)) ∧ Ch L w (pth g (a + 1) (k + 1))
    exact ⟨hg a, pth_ch hg⟩
theorem edge_irr {L : List (List Int)} {w : List Int} {a : Int} (h : Edge L w a a) : False := Nat.lt_irrefl _ h
/-- where each of some would rather have what another of them has, a ring can be passed round -/
theorem ring_of {n : Nat} {L : List (List Int)} {w : List Int} (f : Int → Int) : ∀ (m : Nat) (S : Int → Prop), (∀ x, S x → x ∈ nums n ∧ (n : Int) - m ≤ x) → (∃ x, S x) → (∀ x, S x → S (f x) ∧ Edge L w x (f x)) → ∃ s ∈ nums n, Ext n L w s [s]
  | 0, S, h1, ⟨x, hx⟩, _ => by
    obtain ⟨h2, h3⟩ := h1 x hx
    have := mem_nums.mp h2
    omega
  | m + 1, S, h1, ⟨x, hx⟩, h2 => by
    by_cases hs : S ((n : Int) - (m + 1 : Nat))
    · obtain ⟨s, hse⟩ : ∃ s : Int, s = (n : Int) - (m + 1 : Nat) := ⟨_, rfl⟩
      rw [← hse] at hs
      have hS : ∀ k, S (it f s k) := fun k => by
        induction k with
        | zero => exact hs
        | succ k ih => exact (h2 _ ih).1
      have hE : ∀ k, Edge L w (it f s k) (it f s (k + 1)) := fun k => (h2 _ (hS k)).2
      by_cases hr : ∃ k, 1 ≤ k ∧ it f s k = s
      · obtain ⟨k, ⟨hk1, hk2⟩, hk3⟩ := least hr
        have hk : 2 ≤ k := by
          by_cases e : k = 1
          · subst e
            have := hE 0
            rw [show it f s (0 + 1) = s from hk2] at this
            exact (edge_irr this).elim
          · omega
        have hinj : ∀ i j, i < j → j < k → it f s i ≠ it f s j := fun i j h3 h4 e => by
          have := it_add f s e (k - j)
          rw [show j + (k - j) = k by omega, hk2] at this
          exact hk3 (i + (k - j)) (by omega) ⟨by omega, this⟩
        refine ⟨s, (h1 s hs).1, pth (it f s) 1 (k - 1), ?_, ?_⟩
        · have e : [s] ++ pth (it f s) 1 (k - 1) = pth (it f s) 0 k := by
            obtain ⟨k', rfl⟩ : ∃ k', k = k' + 1 := ⟨k - 1, by omega⟩
            rfl
          rw [e]
          refine ⟨?_, pth_nodup (m := k) hinj (by omega), ?_, ?_, pth_ch hE⟩
          · rw [← e]; rfl
          · rw [← e]
            intro y hy
            obtain ⟨i, h3, h4, h5⟩ := mem_pth.mp hy
            have h6 := (h1 y (by rw [h5]; exact hS i)).2
            have h7 : y ≠ s := fun e => by
              rw [h5] at e
              exact hinj 0 i (by omega) (by omega) e.symm
            omega
          · intro y hy
            obtain ⟨i, _, _, h5⟩ := mem_pth.mp hy
            rw [h5]
            exact (h1 _ (hS i)).1
        · have e : [s] ++ pth (it f s) 1 (k - 1) = pth (it f s) 0 ((k - 1) + 1) := rfl
          rw [e]
          refine ⟨by rw [pth_len]; omega, (by show s :: _ ≠ []; simp), ?_⟩
          rw [pth_last]
          have := hE (0 + (k - 1))
          rw [show 0 + (k - 1) + 1 = k by omega, hk2] at this
          exact this
      · refine ring_of f m (fun y => ∃ k, 1 ≤ k ∧ y = it f s k) (fun y ⟨k, h3, h4⟩ => ?_) ⟨_, 1, by omega, rfl⟩ fun y ⟨k, h3, h4⟩ => ?_
        · rw [h4]
          obtain ⟨h5, h6⟩ := h1 _ (hS k)
          refine ⟨h5, ?_⟩
          have : it f s k ≠ s := fun e => hr ⟨k, h3, e⟩
          omega
        · rw [h4]
          exact ⟨⟨k + 1, by omega, rfl⟩, hE k⟩
    · refine ring_of f m S (fun y hy => ?_) ⟨x, hx⟩ h2
      obtain ⟨h5, h6⟩ := h1 y hy
      refine ⟨h5, ?_⟩
      have : y ≠ (n : Int) - (m + 1 : Nat) := fun e => hs (by rw [← e]; exact hy)
      omega
theorem ring_of_stuck {n : Nat} {L : List (List Int)} {w left : List Int} (h0 : left ≠ []) (h1 : ∀ i ∈ left, i ∈ nums n) (h2 : ∀ i ∈ left, ∃ j ∈ left, Edge L w i j) : ∃ s ∈ nums n, Ext n L w s [s] := by
  have h3 : ∀ i, ∃ j, i ∈ left → j ∈ left ∧ Edge L w i j := fun i => by
    by_cases hi : i ∈ left
    · obtain ⟨j, h4, h5⟩ := h2 i hi
      exact ⟨j, fun _ => ⟨h4, h5⟩⟩
    · exact ⟨0, fun h => absurd h hi⟩
  obtain ⟨f, hf⟩ := Classical.axiomOfChoice h3
  obtain ⟨x, hx⟩ := List.exists_mem_of_ne_nil left h0
  exact ring_of f n (fun y => y ∈ left) (fun y hy => ⟨h1 y hy, by have := mem_nums.mp (h1 y hy); omega⟩) ⟨x, hx⟩ fun y hy => hf y hy
end FD.K13


set_option Elab.async false
set_option linter.all false
set_option maxRecDepth 100000
namespace FD.K13
open PySem L2 FD FD.Ty
/-- nobody is worse off -/
def NoWorse (n : Nat) (L : List (List Int)) (other w : List Int) : Prop := ∀ k ∈ nums n, ¬ (Lp L k).idxOf (wp w k) < (Lp L k).idxOf (wp other k)
def Tight (n : Nat) (L : List (List Int)) (w : List Int) : Prop := ∀ other : List Int, other.Perm (nums n) → other ≠ w → ¬ NoWorse n L other w
/-! taking turns is tight -/
theorem fold_other {L : List (List Int)} {a : Int} (ha : 0 ≤ a) : ∀ (o : List Int) (s : List (Option Int) × List Int), (∀ b ∈ o, 0 ≤ b) → a ∉ o → (o.foldl (itS L) s).1[a.toNat]? = s.1[a.toNat]?
  | [], s, _, _ => rfl
  | b :: o, s, h, hn => by
    have hb := h b List.mem_cons_self
    have hne : b.toNat ≠ a.toNat := fun e => hn (by rw [show a = b by omega]; exact List.mem_cons_self)
    rw [List.foldl_cons, fold_other ha o _ (fun c hc => h c (List.mem_cons_of_mem _ hc)) fun q => hn (List.mem_cons_of_mem _ q)]
    unfold itS
    split
    · rfl
    · exact List.getElem?_set_ne hne
theorem turn_tight {n : Nat} {L : List (List Int)} {w o : List Int} (m : Mk n L w) (ho : o.Perm (nums n)) (h : inTurn L o = w.map some) : Tight n L w := by
  intro other hp hne hnw
  have hon : ∀ a ∈ o, a ∈ nums n := fun a ha => ho.mem_iff.mp ha
  have hnd : o.Nodup := ho.nodup_iff.mpr (nums_nodup n)
  have main : ∀ (rest pre : List Int), pre ++ rest = o → (pre.foldl (itS L) (List.replicate L.length none, [])).2 = pre.map (wp w) → (∀ a ∈ pre, wp other a = wp w a) → ∀ a ∈ o, wp other a = wp w a := by
    intro rest
    induction rest with
    | nil => intro pre h1 _ h3; rw [List.append_nil] at h1; rw [← h1]; exact h3
    | cons a rest ih =>
      intro pre h1 h2 h3
      have hao : a ∈ o := by rw [← h1]; simp
      have han := hon a hao
      have ha0 := (mem_nums.mp han).1
      have hnd2 := hnd
      rw [← h1, List.nodup_append] at hnd2
      obtain ⟨_, hnr, hdis⟩ := hnd2
      rw [List.nodup_cons] at hnr
      have hap : a ∉ pre := fun q => hdis a q a List.mem_cons_self rfl
      obtain ⟨s, hs⟩ : ∃ s, s = pre.foldl (itS L) (List.replicate L.length none, []) := ⟨_, rfl⟩
      have f0 : s.1[a.toNat]? = some none := by
        rw [hs, fold_other ha0 pre _ (fun b hb => (mem_nums.mp (hon b (by rw [← h1]; exact List.mem_append_left _ hb))).1) hap, List.getElem?_replicate, if_pos (by have := (mem_nums.mp han).2; rw [m.len]; omega)]
      have f1 : (inTurn L o)[a.toNat]? = (itS L s a).1[a.toNat]? := by
        unfold inTurn
        rw [← h1, List.foldl_append, ← hs, List.foldl_cons]
        exact fold_other ha0 rest _ (fun b hb => (mem_nums.mp (hon b (by rw [← h1]; exact List.mem_append_right _ (List.mem_cons_of_mem _ hb)))).1) hnr.1
      have f2 : (inTurn L o)[a.toNat]? = some (some (wp w a)) := by
        rw [h, List.getElem?_map]
        have := (mem_nums.mp han).2
        unfold wp
        rw [List.getElem?_eq_getElem (by rw [m.wlen]; omega)]; rfl
      rw [f2] at f1
      have h2' : s.2 = pre.map (wp w) := by rw [hs]; exact h2
      have key : ∃ r, (Lp L a).filter (fun t => !memB t s.2) = wp w a :: r ∧ (itS L s a).2 = s.2 ++ [wp w a] := by
        unfold itS at f1 ⊢
        cases hF : (Lp L a).filter (fun t => !memB t s.2) with
        | nil => rw [hF] at f1; dsimp only at f1; rw [f0] at f1; cases f1
        | cons t r =>
          rw [hF] at f1
          dsimp only at f1
          rw [List.getElem?_set_self (by
            have := (List.getElem?_eq_some_iff.mp f0).1
            exact this)] at f1
          have : wp w a = t := Option.some.inj (Option.some.inj f1)
          rw [← this]
          exact ⟨r, rfl, rfl⟩
      obtain ⟨r, k1, k2⟩ := key
      have hoa : wp other a = wp w a := by
        refine Classical.byContradiction fun hn => hnw a han ?_
        refine filter_head k1 ((m.pl a han).mem_iff.mpr (wp_mem hp han)) ?_ hn
        rw [Bool.not_eq_true', memB_false, h2']
        intro q
        obtain ⟨b, hb, e⟩ := List.mem_map.mp q
        rw [← h3 b hb] at e
        have := wp_inj hp (hon b (by rw [← h1]; exact List.mem_append_left _ hb)) han e
        rw [this] at hb
        exact hap hb
      refine ih (pre ++ [a]) (by rw [List.append_assoc]; exact h1) ?_ fun b hb => ?_
      · rw [List.foldl_append, ← hs]
        show (itS L s a).2 = _
        rw [k2, h2', List.map_append]; rfl
      · rcases List.mem_append.mp hb with hb | hb
        · exact h3 b hb
        · rw [List.mem_singleton.mp hb]; exact hoa
  have hall := main o [] rfl rfl fun _ h => (by cases h)
  have ho2 : other.length = n := by rw [hp.length_eq, nums_len]
  apply hne
  have e1 := map_wp other
  have e2 := map_wp w
  rw [ho2] at e1
  rw [m.wlen] at e2
  rw [← e1, ← e2]
  exact List.map_congr_left fun a ha => hall a (ho.mem_iff.mpr ha)
/-! a ring passed round -/
/-- the next in a ring -/
def nxt (p : List Int) (a : Int) : Int := p.getD ((p.idxOf a + 1) % p.length) 0
/-- what a has then -/
def aft (w p : List Int) (a : Int) : Int := if a ∈ p then wp w (nxt p a) else wp w a
theorem ch_at {L : List (List Int)} {w : List Int} : ∀ {p : List Int} {i : Nat}, Ch L w p → (hi : i + 1 < p.length) → Edge L w (p[i]'(by omega)) p[i + 1]
  | [], _, _, h => absurd h (Nat.not_lt_zero _)
  | [_], _, _, h => by simp at h
  | a :: b :: p, 0, h, _ => h.1
  | a :: b :: p, i + 1, h, hi => ch_at (p := b :: p) h.2 (by simpa using hi)
theorem nxt_edge {n : Nat} {L : List (List Int)} {w p : List Int} {s a : Int} (h : Way n L w s p) (hc : Closes L w s p) (ha : a ∈ p) : Edge L w a (nxt p a) ∧ nxt p a ∈ p := by
  obtain ⟨i, hi, e⟩ := List.mem_iff_getElem.mp ha
  have hx : p.idxOf a = i := by rw [← e]; exact List.Nodup.idxOf_getElem h.nd i hi
  unfold nxt
  rw [hx]
  by_cases hl : i + 1 < p.length
  · rw [Nat.mod_eq_of_lt hl, List.getD_eq_getElem?_getD, List.getElem?_eq_getElem hl, ← e]
    exact ⟨ch_at h.ch hl, List.getElem_mem _⟩
  · have hi1 : i + 1 = p.length := by omega
    rw [hi1, Nat.mod_self]
    obtain ⟨h1, hp, h2⟩ := hc
    have h0 : p.getD 0 0 = s := by
      have := h.hd
      rw [List.head?_eq_getElem?] at this
      rw [List.getD_eq_getElem?_getD, this]; rfl
    rw [h0]
    rw [List.getLast_eq_getElem] at h2
    have : a = p[p.length - 1] := by
      refine e.symm.trans ?_
      congr 1; omega
    rw [this]
    refine ⟨h2, ?_⟩
    have := h.hd
    rw [List.head?_eq_getElem?] at this
    exact List.mem_of_getElem? this
theorem nxt_inj {n : Nat} {L : List (List Int)} {w p : List Int} {s a b : Int} (h : Way n L w s p) (ha : a ∈ p) (hb : b ∈ p) (e : nxt p a = nxt p b) : a = b := by
  obtain ⟨i, hi, ea⟩ := List.mem_iff_getElem.mp ha
  obtain ⟨j, hj, eb⟩ := List.mem_iff_getElem.mp hb
  have hx : p.idxOf a = i := by rw [← ea]; exact List.Nodup.idxOf_getElem h.nd i hi
  have hy : p.idxOf b = j := by rw [← eb]; exact List.Nodup.idxOf_getElem h.nd j hj
  unfold nxt at e
  have l1 : (i + 1) % p.length < p.length := Nat.mod_lt _ (by omega)
  have l2 : (j + 1) % p.length < p.length := Nat.mod_lt _ (by omega)
  rw [hx, hy, List.getD_eq_getElem?_getD, List.getD_eq_getElem?_getD, List.getElem?_eq_getElem l1, List.getElem?_eq_getElem l2] at e
  have e2 : p[(i + 1) % p.length] = p[(j + 1) % p.length] := e
  have e3 := (List.getElem_inj h.nd).mp e2
  have : i = j := by
    by_cases c1 : i + 1 < p.length
    · rw [Nat.mod_eq_of_lt c1] at e3
      by_cases c2 : j + 1 < p.length
      · rw [Nat.mod_eq_of_lt c2] at e3; omega
      · rw [show j + 1 = p.length by omega, Nat.mod_self] at e3; omega
    · rw [show i + 1 = p.length by omega, Nat.mod_self] at e3
      by_cases c2 : j + 1 < p.length
      · rw [Nat.mod_eq_of_lt c2] at e3; omega
      · omega
  subst this
  rw [← ea, ← eb]
theorem perm_of : ∀ {l m : List Int}, l.Nodup → (∀ x ∈ l, x ∈ m) → l.length = m.length → l.Perm m
  | [], m, _, _, h => by rw [List.length_eq_zero_iff.mp h.symm]
  | a :: l, m, h, hs, hl => by
    rw [List.nodup_cons] at h
    have ha := hs a List.mem_cons_self
    have hp := List.length_pos_iff.mpr (List.ne_nil_of_mem ha)
    have := perm_of (l := l) (m := m.erase a) h.2 (fun x hx => (List.mem_erase_of_ne (fun e => h.1 (by rw [← e]; exact hx))).mpr (hs x (List.mem_cons_of_mem _ hx))) (by rw [List.length_erase_of_mem ha]; rw [List.length_cons] at hl; omega)
    exact (this.cons a).trans (List.perm_cons_erase ha).symm
theorem map_nodup {f : Int → Int} : ∀ {l : List Int}, l.Nodup → (∀ a ∈ l, ∀ b ∈ l, f a = f b → a = b) → (l.map f).Nodup
  | [], _, _ => List.nodup_nil
  | a :: l, h, hi => by
    rw [List.nodup_cons] at h
    rw [List.map_cons, List.nodup_cons]
    refine ⟨fun q => ?_, map_nodup h.2 fun x hx y hy => hi x (List.mem_cons_of_mem _ hx) y (List.mem_cons_of_mem _ hy)⟩
    obtain ⟨b, hb, e⟩ := List.mem_map.mp q
    rw [hi b (List.mem_cons_of_mem _ hb) a List.mem_cons_self e] at hb
    exact h.1 hb
theorem aft_perm {n : Nat} {L : List (List Int)} {w p : List Int} {s : Int} (m : Mk n L w) (h : Way n L w s p) (hc : Closes L w s p) : ((nums n).map (aft w p)).Perm (nums n) := by
  have hm : ∀ a ∈ nums n, ∃ b ∈ nums n, aft w p a = wp w b ∧ (a ∈ p → b = nxt p a ∧ b ∈ p) ∧ (a ∉ p → b = a) := fun a ha => by
    unfold aft
    by_cases hp : a ∈ p
    · have := (nxt_edge h hc hp).2
      exact ⟨nxt p a, h.mem _ this, if_pos hp, fun _ => ⟨rfl, this⟩, fun q => absurd hp q⟩
    · exact ⟨a, ha, if_neg hp, fun q => absurd q hp, fun _ => rfl⟩
  refine perm_of (map_nodup (nums_nodup n) fun a ha b hb e => ?_) (fun x hx => ?_) (by rw [List.length_map])
  · obtain ⟨a', h1, h2, h3, h4⟩ := hm a ha
    obtain ⟨b', k1, k2, k3, k4⟩ := hm b hb
    rw [h2, k2] at e
    have e2 := wp_inj m.pw h1 k1 e
    by_cases pa : a ∈ p
    · by_cases pb : b ∈ p
      · rw [(h3 pa).1, (k3 pb).1] at e2
        exact nxt_inj h pa pb e2
      · rw [k4 pb] at e2
        rw [← e2] at pb
        exact absurd (h3 pa).2 pb
    · by_cases pb : b ∈ p
      · rw [h4 pa] at e2
        rw [e2] at pa
        exact absurd (k3 pb).2 pa
      · rw [h4 pa, k4 pb] at e2
        exact e2
  · obtain ⟨a, ha, e⟩ := List.mem_map.mp hx
    obtain ⟨a', h1, h2, _⟩ := hm a ha
    rw [← e, h2]
    exact wp_mem m.pw h1
theorem wp_nums {n : Nat} {f : Int → Int} {a : Int} (ha : a ∈ nums n) : wp ((nums n).map f) a = f a := by
  obtain ⟨h1, h2⟩ := mem_nums.mp ha
  obtain ⟨i, rfl⟩ := Int.eq_ofNat_of_zero_le h1
  unfold wp nums
  rw [List.map_map, Int.toNat_natCast, List.getElem?_map, List.getElem?_range (by omega)]; rfl
theorem ring_loose {n : Nat} {L : List (List Int)} {w p : List Int} {s : Int} (m : Mk n L w) (h : Way n L w s p) (hc : Closes L w s p) : ¬ Tight n L w := by
  intro ht
  refine ht _ (aft_perm m h hc) (fun e => ?_) fun k hk => ?_
  · have hs : s ∈ p := by
      have := h.hd
      rw [List.head?_eq_getElem?] at this
      exact List.mem_of_getElem? this
    have hsn := h.mem s hs
    have h1 := (nxt_edge h hc hs).1
    have h2 : wp ((nums n).map (aft w p)) s = wp w s := by rw [e]
    rw [wp_nums hsn] at h2
    unfold aft at h2
    rw [if_pos hs] at h2
    unfold Edge at h1
    rw [h2] at h1
    exact Nat.lt_irrefl _ h1
  · rw [wp_nums hk]
    unfold aft
    by_cases hp : k ∈ p
    · rw [if_pos hp]
      have := (nxt_edge h hc hp).1
      unfold Edge at this
      omega
    · rw [if_neg hp]; omega
end FD.K13


set_option Elab.async false
set_option linter.all false
set_option maxRecDepth 100000
namespace FD.K13
open PySem L2 FD FD.Ty
theorem idxM_mem {l : List Int} {t : Int} (h : t ∈ l) : idxM l t = .ok (l.idxOf t : Int) := by
  refine idxM_of ?_
  induction l with
  | nil => cases h
  | cons x l ih =>
    rw [List.findIdx?_cons]
    by_cases hx : x = t
    · subst hx
      simp
    · have ht : t ∈ l := by
        rcases List.mem_cons.mp h with e | e
        · exact absurd e.symm hx
        · exact e
      rw [decide_eq_false hx, ih ht, idx_ne hx]; rfl
/-- several drawn with the same dice -/
theorem draws_ok {d : List Int} (hd : Die d) {n : Nat} (hn : n ≤ 100) {f : Int → List Int → M (List Int × List Int)} {P : List Int → Prop} (hf : ∀ a s, Die s → Ok (f a s) fun v => P v.1 ∧ Die v.2) :
    Ok (R.bind (grd (okI (n : Int)) (R.ok (rngT 0 (n : Int))) R.stk) fun l => grd (szOk l.length) (lcX f l d) R.stk) fun v => (v.1.length = n ∧ ∀ x ∈ v.1, P x) ∧ Die v.2 := by
  rw [okn (by omega) (by omega), grd_true, bind_ok, rngT_nat]
  have hl : ((List.range n).map fun (i : Nat) => (i : Int)).length = n := nums_len n
  rw [hl, sz (by omega), grd_true]
  refine (lcX_Ok hd fun a _ s hs => hf a s hs).imp fun v h => ?_
  rw [hl] at h
  exact h
theorem lp_mem {n : Nat} {L : List (List Int)} (hL : L.length = n) {a : Int} (ha : a ∈ nums n) : Lp L a ∈ L := by
  obtain ⟨h1, h2⟩ := mem_nums.mp ha
  unfold Lp
  rw [List.getElem?_eq_getElem (by omega)]
  exact List.getElem_mem _
/-- what each gets by taking turns -/
theorem turn_at {n : Nat} {L : List (List Int)} {order pre rest : List Int} {a : Int} (hL : L.length = n) (ho : ∀ b ∈ order, b ∈ nums n) (hnd : order.Nodup) (h : pre ++ a :: rest = order) :
    (inTurn L order)[a.toNat]? = some (((Lp L a).filter fun t => !memB t (pre.foldl (itS L) (List.replicate L.length none, [])).2).head?) := by
  have han := ho a (by rw [← h]; simp)
  have ha0 := (mem_nums.mp han).1
  have hnd2 := hnd
  rw [← h, List.nodup_append] at hnd2
  obtain ⟨_, hnr, hdis⟩ := hnd2
  rw [List.nodup_cons] at hnr
  have hap : a ∉ pre := fun q => hdis a q a List.mem_cons_self rfl
  obtain ⟨s, hs⟩ : ∃ s, s = pre.foldl (itS L) (List.replicate L.length none, []) := ⟨_, rfl⟩
  have f0 : s.1[a.toNat]? = some none := by
    rw [hs, fold_other ha0 pre _ (fun b hb => (mem_nums.mp (ho b (by rw [← h]; exact List.mem_append_left _ hb))).1) hap, List.getElem?_replicate, if_pos (by have := (mem_nums.mp han).2; omega)]
  have f1 : (inTurn L order)[a.toNat]? = (itS L s a).1[a.toNat]? := by
    unfold inTurn
    rw [← h, List.foldl_append, ← hs, List.foldl_cons]
    exact fold_other ha0 rest _ (fun b hb => (mem_nums.mp (ho b (by rw [← h]; exact List.mem_append_right _ (List.mem_cons_of_mem _ hb)))).1) hnr.1
  rw [f1, ← hs]
  unfold itS
  cases (Lp L a).filter (fun t => !memB t s.2) with
  | nil => exact f0
  | cons t r => exact List.getElem?_set_self (List.getElem?_eq_some_iff.mp f0).1
theorem itS_taken (L : List (List Int)) (s : List (Option Int) × List Int) (a : Int) : (itS L s a).2 = s.2 ++ ((Lp L a).filter fun t => !memB t s.2).take 1 := by
  unfold itS
  cases (Lp L a).filter (fun t => !memB t s.2) with
  | nil => simp
  | cons t r => simp
theorem perm_nodup {n : Nat} {w : List Int} (h : w.Perm (nums n)) : w.Nodup := h.nodup_iff.mpr (nums_nodup n)
theorem insI_comm (a b : Int) : ∀ l : List Int, insI a (insI b l) = insI b (insI a l)
  | [] => by
    simp only [insI]
    split <;> split <;> first | rfl | (have : a = b := by omega) ; subst this; rfl | omega
  | x :: l => by
    have ih := insI_comm a b l
    simp only [insI]
    by_cases h1 : b ≤ x <;> by_cases h2 : a ≤ x
    · simp only [h1, h2, if_true, insI]
      by_cases h3 : a ≤ b <;> by_cases h4 : b ≤ a
      · have : a = b := by omega
        subst this; rfl
      · simp only [h3, h4, if_true, if_false]
      · simp only [h3, h4, if_true, if_false]
      · omega
    · have h3 : ¬ a ≤ b := by omega
      simp only [h1, h2, h3, if_true, if_false, insI]
    · have h3 : ¬ b ≤ a := by omega
      simp only [h1, h2, h3, if_true, if_false, insI]
    · simp only [h1, h2, if_false, insI, ih]
theorem sortI_perm {a b : List Int} (h : a.Perm b) : sortI a = sortI b := by
  induction h with
  | nil => rfl
  | cons x _ ih => show insI x _ = insI x _; rw [ih]
  | swap x y l => exact insI_comm y x (sortI l)
  | trans _ _ ih1 ih2 => rw [ih1, ih2]
theorem sortI_sorted : ∀ {l : List Int}, l.Pairwise (· ≤ ·) → sortI l = l
  | [], _ => rfl
  | a :: l, h => by
    rw [List.pairwise_cons] at h
    show insI a (sortI l) = a :: l
    rw [sortI_sorted h.2]
    cases l with
    | nil => rfl
    | cons b l =>
      show (if a ≤ b then _ else _) = _
      rw [if_pos (h.1 b List.mem_cons_self)]
theorem sortI_nums {n : Nat} {l : List Int} (h : l.Perm (nums n)) : sortI l = nums n := by
  rw [sortI_perm h]
  refine sortI_sorted ?_
  unfold nums
  exact List.Pairwise.map _ (fun a b (h : a < b) => by omega) List.pairwise_lt_range
end FD.K13


set_option Elab.async false
set_option linter.all false
set_option maxRecDepth 100000
namespace FD.K13
open PySem L2 FD FD.Ty
theorem nums_map {n : Nat} {f : Int → Int} {A : List Int} (h1 : A.length = n) (h2 : ∀ a ∈ nums n, A[a.toNat]? = some (f a)) : A = (nums n).map f := by
  apply List.ext_getElem?
  intro i
  by_cases hi : i < n
  · have ha : (i : Int) ∈ nums n := mem_nums.mpr ⟨by omega, by omega⟩
    have := h2 i ha
    rw [Int.toNat_natCast] at this
    rw [this]
    unfold nums
    rw [List.map_map, List.getElem?_map, List.getElem?_range hi]; rfl
  · rw [List.getElem?_eq_none (by omega), List.getElem?_eq_none (by rw [List.length_map, nums_len]; omega)]
/-- the ring passed round, place by place -/
theorem ring_loop {n : Nat} {L : List (List Int)} {w p : List Int} {s : Int} (m : Mk n L w) (h : Way n L w s p) {ρ κ : Type} {V : ρ → Prop} {Kb Kc : κ → Prop} {N : List Int → Prop} (hN : N ((nums n).map (aft w p))) :
    Tr (forT (fun (a671 : Int) (s672 : (List Int)) => (thn (R.bind (R.bind (getM (some p)) fun x676 => (R.bind (R.bind (R.bind (getM (some p)) fun x674 => (R.ok (x674.length : Int))) fun x675 => (modM (a671 + (1 : Int)) x675)) fun x677 => (atM x676 x677))) fun x678 => (atM w x678)) fun x679 => thn (R.bind (getM (some p)) fun x680 => (atM x680 a671)) fun x682 => thn (setM s672 x682 x679) fun l681 => (.nx l681))) (rngT 0 (p.length : Int)) w : TR ρ κ (List Int)) N V Kb Kc := by
  have hpl : p.length ≤ n := by
    rw [← nums_len n]
    exact len_le h.nd h.mem
  rw [rngT_nat]
  refine Tr.for (fun pre rest A => pre ++ rest = nums p.length ∧ A.length = n ∧ ∀ a ∈ nums n, A[a.toNat]? = some (if a ∈ p.take pre.length then wp w (nxt p a) else wp w a)) (fun pre a rest A ⟨k1, k2, k3⟩ => ?_) (fun pre A ⟨k1, k2, k3⟩ => ?_) _ [] _ ⟨rfl, m.wlen, fun a ha => ?_⟩
  · rw [List.length_nil, List.take_zero, if_neg (by simp)]
    have := mem_nums.mp ha
    unfold wp
    rw [List.getElem?_eq_getElem (by rw [m.wlen]; omega)]; rfl
  · have hlen : pre.length < p.length := by
      have := congrArg List.length k1
      rw [List.length_append, List.length_cons, nums_len] at this
      omega
    have ha : a = (pre.length : Int) := by
      have h1 : (pre ++ a :: rest)[pre.length]? = some a := by simp
      rw [k1] at h1
      unfold nums at h1
      rw [List.getElem?_map, List.getElem?_range hlen] at h1
      exact (Option.some.inj h1).symm
    obtain ⟨i, hi⟩ : ∃ i, pre.length = i := ⟨_, rfl⟩
    rw [hi] at ha hlen k3
    subst ha
    have hpi : p[i] ∈ p := List.getElem_mem hlen
    have hpn := h.mem _ hpi
    have hx : p.idxOf p[i] = i := List.Nodup.idxOf_getElem h.nd i hlen
    have hmod : (i + 1) % p.length < p.length := Nat.mod_lt _ (by omega)
    have hnx : p[(i + 1) % p.length] = nxt p p[i] := by
      unfold nxt
      rw [hx, List.getD_eq_getElem?_getD, List.getElem?_eq_getElem hmod]; rfl
    have e1 : modM ((i : Int) + 1) (p.length : Int) = .ok (((i + 1) % p.length : Nat) : Int) := by
      rw [modM_ok (by omega)]
      congr 1
    have hg : getM (some p) = .ok p := rfl
    refine Tr.te (v := wp w (nxt p p[i])) ?_ ?_
    · rw [hg, bind_ok, bind_ok, bind_ok, e1, bind_ok, atM_nat hmod, bind_ok, hnx, at_wp m.wlen (h.mem _ (by rw [← hnx]; exact List.getElem_mem _))]
    · rw [hg, bind_ok, atM_nat hlen]
      refine Tr.te rfl ?_
      obtain ⟨q1, q2⟩ := mem_nums.mp hpn
      obtain ⟨j, hj⟩ := Int.eq_ofNat_of_zero_le q1
      rw [hj, setM_nat (by omega)]
      refine Tr.te rfl ⟨by rw [List.append_assoc]; exact k1, by rw [List.length_set]; exact k2, fun b hb => ?_⟩
      rw [List.length_append, List.length_singleton, hi, List.take_succ_eq_append_getElem hlen]
      by_cases e : b = p[i]
      · rw [e, if_pos (List.mem_append_right _ (List.mem_singleton.mpr rfl))]
        have : (p[i] : Int).toNat = j := by omega
        rw [this, List.getElem?_set_self (by omega), hj]
      · have hne : j ≠ b.toNat := fun e2 => e (by have := (mem_nums.mp hb).1; omega)
        rw [List.getElem?_set_ne hne, k3 b hb]
        congr 1
        have : b ∈ p.take i ++ [p[i]] ↔ b ∈ p.take i := by rw [List.mem_append, List.mem_singleton]; exact ⟨fun h => h.resolve_right e, .inl⟩
        by_cases hbt : b ∈ p.take i
        · rw [if_pos hbt, if_pos (this.mpr hbt)]
        · rw [if_neg hbt, if_neg fun q => hbt (this.mp q)]
  · have hl : pre.length = p.length := by
      have := congrArg List.length k1
      rw [List.length_append, nums_len] at this
      simpa using this
    rw [hl, List.take_length] at k3
    rw [nums_map k2 (f := aft w p) k3]
    exact hN
/-- nobody else's giving is better for some and worse for none -/
def worse (n : Nat) (L : List (List Int)) (w other : List Int) : List Int := (nums n).filter fun k => decide ((Lp L k).idxOf (wp w k) < (Lp L k).idxOf (wp other k))
theorem worse_ok {n : Nat} {L : List (List Int)} {w other : List Int} (m : Mk n L w) (ho : other.Perm (nums n)) : (R.bind (grd (okI (n : Int)) (R.ok (rngT 0 (n : Int))) R.stk) fun l610 => grd (szOk l610.length) (lcM (fun a607 => (R.bind (R.bind (atM L a607) fun l => R.bind (atM other a607) fun k => idxM l k) fun x608 => (R.bind (R.bind (atM L a607) fun l => R.bind (atM w a607) fun k => idxM l k) fun x609 => R.ok (decide (x609 < x608))))) (fun a607 => (R.ok a607)) l610) R.stk) = .ok (worse n L w other) := by
  have hsm := m.sm
  rw [okn (by omega) (by omega), grd_true, bind_ok, rngT_nat, sz (by rw [List.length_map, List.length_range]; omega), grd_true]
  refine lcM_filter fun a ha => ?_
  have ha : a ∈ nums n := ha
  have hol : other.length = n := by rw [ho.length_eq, nums_len]
  have i1 : wp other a ∈ Lp L a := (m.pl a ha).mem_iff.mpr (wp_mem ho ha)
  have i2 : wp w a ∈ Lp L a := (m.pl a ha).mem_iff.mpr (wp_mem m.pw ha)
  rw [at_Lp m.len ha, at_wp hol ha, at_wp m.wlen ha, bind_ok, bind_ok, bind_ok, idxM_mem i1, bind_ok, bind_ok, idxM_mem i2, bind_ok]
  congr 1
  exact decide_eq_decide.mpr ⟨fun h => by omega, fun h => by omega⟩
theorem worse_nil {n : Nat} {L : List (List Int)} {w other : List Int} : worse n L w other = [] ↔ NoWorse n L other w := by
  unfold worse NoWorse
  rw [List.filter_eq_nil_iff]
  exact ⟨fun h k hk q => h k hk (decide_eq_true q), fun h k hk q => h k hk (of_decide_eq_true q)⟩
theorem ways_len {n : Nat} (h : n ≤ 4) : (pw 6 (nums n)).length ≤ 24 := by
  have := pw_len 6 (nums n)
  rw [nums_len] at this
  have := fac_le h
  omega
theorem mem_ways {n : Nat} (h : n ≤ 4) {q : List Int} : q ∈ pw 6 (nums n) ↔ q.Perm (nums n) := mem_pw 6 (nums n) q (by rw [nums_len]; omega)
theorem tight_ok {n : Nat} {L : List (List Int)} {w : List Int} (m : Mk n L w) (h4 : n ≤ 4) : Ok (R.bind (grd true (lcM (fun a606 => (R.bind (R.ok (!decide (a606 = w))) fun b => grd b (R.bind (R.bind (grd (okI (n : Int)) (R.ok (rngT 0 (n : Int))) R.stk) fun l610 => grd (szOk l610.length) (lcM (fun a607 => (R.bind (R.bind (atM L a607) fun l => R.bind (atM a606 a607) fun k => idxM l k) fun x608 => (R.bind (R.bind (atM L a607) fun l => R.bind (atM w a607) fun k => idxM l k) fun x609 => R.ok (decide (x609 < x608))))) (fun a607 => (R.ok a607)) l610) R.stk) fun x611 => R.ok (decide (x611 = ([] : List Int)))) (R.ok false))) (fun a606 => (R.ok a606)) (pw 6 (nums n))) R.stk) fun x613 => R.ok (decide (x613 = ([] : List (List Int)))))
    fun b => (b = true ↔ Tight n L w) := by
  have hwl := ways_len h4
  rw [grd_true, lcM_filter (q := fun other => !decide (other = w) && decide (worse n L w other = [])) fun other ho => ?_]
  · refine .ok ?_
    rw [decide_eq_true_eq, List.filter_eq_nil_iff]
    constructor
    · intro h other hp hne hnw
      refine h other ((mem_ways h4).mpr hp) ?_
      rw [Bool.and_eq_true, Bool.not_eq_true', decide_eq_false_iff_not, decide_eq_true_eq]
      exact ⟨hne, worse_nil.mpr hnw⟩
    · intro h other hp hq
      rw [Bool.and_eq_true, Bool.not_eq_true', decide_eq_false_iff_not, decide_eq_true_eq] at hq
      exact h other ((mem_ways h4).mp hp) hq.1 (worse_nil.mp hq.2)
  · rw [bind_ok, worse_ok m ((mem_ways h4).mp ho), bind_ok]
    cases decide (other = w) <;> rfl
end FD.K13


set_option Elab.async false
set_option linter.all false
set_option maxRecDepth 100000
namespace FD.K13
open PySem L2 FD FD.Ty
theorem getM_some {α : Type} (x : α) : getM (some x) = .ok x := rfl
theorem law_ok (ns : List Int) (hns : ns.length ≤ 63) : t_law ns = .ok true := by
  unfold t_law
  refine Ok.eq (Ok.fin ?_)
  refine Tr.s (N' := fun _ => True) ?_ fun _ _ => rfl
  refine Tr.t (rounds_ok ns 1 (by omega)) fun x1 hx1 => Tr.forall (fun _ => True) trivial (fun d hd _ _ => ?_) fun _ h => h
  have hD := hx1 d hd
  refine Tr.t (P := fun (v : Int × List Int) => (∃ n : Nat, v.1 = (n : Int) ∧ 1 ≤ n ∧ n ≤ 4) ∧ Die v.2) (Ok.bind (roll_ok hD (m := 4) (by omega) (by omega)) fun v ⟨⟨h1, h2⟩, h3⟩ => .ok ⟨⟨(1 + v.1).toNat, by show 1 + v.1 = _; omega, by omega, by omega⟩, h3⟩) fun ⟨many, d1⟩ ⟨⟨n, hn, hn1, hn4⟩, hD1⟩ => ?_
  have hn : many = (n : Int) := hn
  have hD1 : Die d1 := hD1
  subst hn
  dsimp only
  -- the lists and the order
  refine Tr.t (P := fun (v : (List (List Int) × List Int) × List Int) => (v.1.1.length = n ∧ ∀ x ∈ v.1.1, x.Perm (nums n)) ∧ v.1.2.Perm (nums n) ∧ Die v.2) (Ok.bind (Ok.bind (draws_ok hD1 (by omega) (P := fun x => x.Perm (nums n)) fun a s hs => full_ok hs (by omega)) fun v ⟨h1, h2⟩ => Ok.bind (P := fun w => w.1.1.Perm (nums n) ∧ Die w.1.2) (Ok.bind (full_ok h2 (by omega)) fun w h3 => .ok h3) fun w h3 => .ok (show (((v, w) : (List (List Int) × List Int) × ((List Int × List Int) × Unit)).1.1.length = n ∧ ∀ x ∈ v.1, x.Perm (nums n)) ∧ w.1.1.Perm (nums n) ∧ Die w.1.2 from ⟨h1, h3⟩)) fun v h => .ok h) fun ⟨⟨L, order⟩, d2⟩ ⟨⟨hL, hLp⟩, hord, hD2⟩ => ?_
  dsimp only at hL hLp hord hD2 ⊢
  -- lists of some
  refine Tr.t (P := fun (v : (List (List Int) × List Int) × List Int) => (v.1.1.length = n ∧ ∀ x ∈ v.1.1, ∃ r, (x ++ r).Perm (nums n)) ∧ v.1.2 = [] ∧ Die v.2) (Ok.bind (P := fun (u : (List (List Int) × List Int) × Unit) => (u.1.1.length = n ∧ ∀ x ∈ u.1.1, ∃ r, (x ++ r).Perm (nums n)) ∧ Die u.1.2) (Ok.bind (draws_ok hD2 (by omega) (P := fun x => ∃ r, (x ++ r).Perm (nums n)) fun a s hs => list_ok hs (by omega)) fun v h => Ok.ok h) fun v ⟨h1, h2⟩ => .ok ⟨h1, rfl, h2⟩) fun ⟨⟨S, tk⟩, d3⟩ ⟨⟨hS, hSp⟩, htk, hD3⟩ => ?_
  dsimp only at hS hSp htk hD3 ⊢
  subst htk
  have hSl : ∀ a ∈ nums n, (Lp S a).length ≤ n := fun a ha => by
    obtain ⟨r, hr⟩ := hSp _ (lp_mem hS ha)
    have := hr.length_eq
    rw [List.length_append, nums_len] at this
    omega
  have hon : ∀ a ∈ order, a ∈ nums n := fun a ha => hord.mem_iff.mp ha
  have hol : order.length = n := by rw [hord.length_eq, nums_len]
  have hond := perm_nodup hord
  rw [in_turn_ok (by omega) hS hon (by omega) fun a ha => by have := hSl a ha; omega]
  refine Tr.te rfl ?_
  -- each gets its best thing left
  refine Tr.s (N' := fun _ => True) ?_ fun _ _ => ?_
  · refine Tr.for (fun pre rest s => pre ++ rest = order ∧ s = (pre.foldl (itS S) (List.replicate S.length none, [])).2 ∧ s.length ≤ pre.length) (fun pre a rest s ⟨k1, k2, k3⟩ => ?_) (fun _ _ _ => trivial) _ [] _ ⟨rfl, rfl, Nat.le_refl _⟩
    have ha : a ∈ nums n := hon a (by rw [← k1]; simp)
    have hpl : pre.length ≤ n := by
      have := congrArg List.length k1
      rw [List.length_append] at this
      omega
    have hta := turn_at hS hon hond k1
    rw [← k2] at hta
    have hit := itS_taken S (pre.foldl (itS S) (List.replicate S.length none, [])) a
    rw [← k2] at hit
    obtain ⟨F, hF⟩ : ∃ F, F = (Lp S a).filter fun t => !memB t s := ⟨_, rfl⟩
    rw [at_Lp hS ha, bind_ok, sz (by have := hSl a ha; omega), grd_true, lcM_filter (q := fun t => !memB t s) fun _ _ => rfl, ← hF]
    rw [← hF] at hta hit
    refine Tr.te rfl ?_
    have hgot : atM (inTurn S order) a = .ok F.head? := by
      obtain ⟨j, hj⟩ := Int.eq_ofNat_of_zero_le (mem_nums.mp ha).1
      rw [hj] at hta ⊢
      rw [Int.toNat_natCast] at hta
      exact atM_some hta
    refine Tr.te (v := false) ?_ ?_
    · rw [hgot, bind_ok]
      cases F with
      | nil => rfl
      | cons t r =>
        rw [show (!decide (t :: r = ([] : List Int))) = true from by simp, bind_ok, grd_true, atM_zero]
        simp
    · refine Tr.ite (fun h => by cases h) fun _ => ?_
      rw [show cutG F none (some (1 : Int)) = F.take 1 from cut_lo F 1]
      have h1 : (F.take 1).length ≤ 1 := by rw [List.length_take]; omega
      rw [sz (by omega), grd_true]
      refine Tr.te rfl ⟨by rw [List.append_assoc]; exact k1, ?_, ?_⟩
      · rw [List.foldl_append]
        exact hit.symm
      · rw [List.length_append, List.length_append, List.length_singleton]; omega
  -- all orders
  rw [rngM_nat (by omega), bind_ok]
  have hw6 : t_all_ways 6 (nums n) = .ok (pw 6 (nums n)) := all_ways_ok 6 (nums n) (by rw [nums_len]; omega) (by rw [nums_len]; omega)
  refine Tr.te hw6 ?_
  have hwl := ways_len hn4
  have hLl : ∀ a ∈ nums n, (Lp L a).length ≤ 1000 := fun a ha => by
    rw [(hLp _ (lp_mem hL ha)).length_eq, nums_len]; omega
  have hit : ∀ q : List Int, q.Perm (nums n) → t_in_turn L q = .ok (inTurn L q) := fun q hq => in_turn_ok (by omega) hL (fun a ha => hq.mem_iff.mp ha) (by rw [hq.length_eq, nums_len]; omega) hLl
  rw [sz (by omega), grd_true, lcM_map (g := inTurn L) fun q hq => hit q ((mem_ways hn4).mp hq)]
  refine Tr.te rfl ?_
  refine Tr.s (N' := fun _ => True) ?_ fun _ _ => trivial
  refine Tr.t (P := fun v => ∀ w ∈ v.1, w.Perm (nums n)) (Ok.bind (P := fun v => ∀ w ∈ v.1, w.Perm (nums n)) (Ok.bind (roll_ok hD3 (m := 3) (by omega) (by omega)) fun v _ => .ok fun w hw => (mem_ways hn4).mp (List.mem_of_mem_drop (List.mem_of_mem_take hw))) fun v hv => .ok fun w hw => hv w (List.mem_of_mem_drop (List.mem_of_mem_take hw))) fun v hv => ?_
  refine Tr.forall (fun _ => True) trivial (fun w hw _ _ => ?_) fun _ h => h
  have hwp := hv w hw
  have m : Mk n L w := ⟨by omega, hL, fun a ha => hLp _ (lp_mem hL ha), hwp⟩
  refine Tr.t (tight_ok m hn4) fun T hT => ?_
  obtain ⟨r1, e1, hr1⟩ := improved_ok m hn4
  obtain ⟨r2, e2, hr2⟩ := turn_for_ok m
  rw [e1, e2, bind_ok, bind_ok, bind_ok, bind_ok]
  refine Tr.te rfl ?_
  dsimp only
  -- the five agree
  have c1 : Tight n L w → r1 = none := fun ht => by
    cases r1 with
    | none => rfl
    | some p =>
      obtain ⟨s, _, h1, h2⟩ := hr1
      exact absurd ht (ring_loose m h1 h2)
  have c2 : r1 = none → r2 ≠ none := fun h1 h2 => by
    rw [h1] at hr1
    rw [h2] at hr2
    obtain ⟨left, h3, h4, h5⟩ := hr2
    obtain ⟨s, hs, he⟩ := ring_of_stuck h3 h4 h5
    exact hr1 s hs he
  have c3 : r2 ≠ none → w.map some ∈ (pw 6 (nums n)).map (inTurn L) := fun h => by
    cases r2 with
    | none => exact absurd rfl h
    | some o => exact List.mem_map.mpr ⟨o, (mem_ways hn4).mpr hr2.1, hr2.2⟩
  have c4 : w.map some ∈ (pw 6 (nums n)).map (inTurn L) → Tight n L w := fun h => by
    obtain ⟨o, h1, h2⟩ := List.mem_map.mp h
    exact turn_tight m ((mem_ways hn4).mp h1) h2
  have d1 : r1.isNone = T := by
    rw [Bool.eq_iff_iff, hT, Option.isNone_iff_eq_none]
    exact ⟨fun h => c4 (c3 (c2 h)), c1⟩
  have d2 : memB (w.map some) ((pw 6 (nums n)).map (inTurn L)) = T := by
    rw [Bool.eq_iff_iff, hT, memB_true]
    exact ⟨c4, fun h => c3 (c2 (c1 h))⟩
  have d3 : r2.isNone = !T := by
    rw [Bool.eq_iff_iff, Bool.not_eq_true', ← Bool.not_eq_true, hT, Option.isNone_iff_eq_none]
    exact ⟨fun h ht => c2 (c1 ht) h, fun h => Classical.byContradiction fun h2 => h (c4 (c3 h2))⟩
  refine Tr.ite (fun h => ?_) fun _ => ?_
  · rw [d1, d2, d3] at h
    cases T <;> simp at h
  -- the turns found give just that
  refine Tr.te (v := false) ?_ (Tr.ite (fun h => by cases h) fun _ => ?_)
  · rw [bind_ok]
    cases r2 with
    | none => rfl
    | some o =>
      rw [show (some o).isSome = true from rfl, grd_true, getM_some, bind_ok, hit o hr2.1, bind_ok, hr2.2]
      simp
  refine Tr.s (N' := fun _ => True) ?_ fun _ _ => trivial
  cases r1 with
  | none => exact Tr.ite (fun h => by cases h) fun _ => trivial
  | some p =>
    obtain ⟨s, hs, h1, h2⟩ := hr1
    refine Tr.ite (fun _ => ?_) fun h => by cases h
    have hpl : p.length ≤ n := by
      rw [← nums_len n]
      exact len_le h1.nd h1.mem
    refine Tr.s (N' := fun A => A = (nums n).map (aft w p)) ?_ fun A hA => ?_
    · rw [getM_some, bind_ok, bind_ok, okn (by omega) (by omega), grd_true]
      refine Tr.te rfl ?_
      exact ring_loop m h1 rfl
    · subst hA
      have hap := aft_perm m h1 h2
      have hal : ((nums n).map (aft w p)).length = n := by rw [List.length_map, nums_len]
      refine Tr.te (v := false) ?_ (Tr.ite (fun h => by cases h) fun _ => ?_)
      · rw [getM_some, bind_ok, sz (by omega), grd_true, lcM_filter (q := fun _ => false) fun a ha => ?_]
        · rw [bind_ok, List.filter_eq_nil_iff.mpr fun _ _ => Bool.false_ne_true]
          simp
        · have ha' := h1.mem a ha
          have i1 : wp ((nums n).map (aft w p)) a ∈ Lp L a := (m.pl a ha').mem_iff.mpr (wp_mem hap ha')
          have i2 : wp w a ∈ Lp L a := (m.pl a ha').mem_iff.mpr (wp_mem m.pw ha')
          rw [at_Lp m.len ha', at_wp hal ha', at_wp m.wlen ha', bind_ok, bind_ok, bind_ok, idxM_mem i1, bind_ok, bind_ok, idxM_mem i2, bind_ok]
          have := (nxt_edge h1 h2 ha).1
          unfold Edge at this
          rw [wp_nums ha']
          unfold aft
          rw [if_pos ha]
          congr 1
          exact decide_eq_false (by omega)
      · refine Tr.te (v := false) ?_ (Tr.ite (fun h => by cases h) fun _ => trivial)
        rw [bind_ok, sortI_nums hap]
        show R.ok (!decide (nums n = nums n)) = _
        simp
theorem always : Always T_law := fun ns h => ⟨[], by
  have := ref_t_law ns
  rw [law_ok ns h] at this
  exact this⟩
end FD.K13


namespace FD.K13
open PySem L2
theorem all_mk (hT : Always T_law) {l : PySem.W.OpenLaw} {w : World} {K : PySem.W.Frag} {h : Heap} {mg : Str → Option Value} {fa : Addr} (X : K.In h) (G : h.Ns mainGlobals mg) (hfa : mg "law" = some (.ref fa))
    {C_Wish : Addr}
    {f__law_dice : Addr}
    {f__law_rounds : Addr}
    {f_in_turn : Addr}
    {f_all_ways : Addr}
    {f__law_roll : Addr}
    {f__law_full : Addr}
    {f__law_list : Addr}
    {f_Wish___init__ : Addr}
    {f_Wish_rank : Addr}
    {f_Wish_ahead_of : Addr}
    {f_improved : Addr}
    {f_turn_for : Addr}
    {f_law : Addr}
    {oc__law_dice kV__law_dice dc__law_dice pm__law_dice cd__law_dice ct__law_dice : Value}
    {od__law_dice an__law_dice : Option Addr}
    {sl__law_dice : Array (Option Value)}
    {oc__law_rounds kV__law_rounds dc__law_rounds pm__law_rounds cd__law_rounds ct__law_rounds : Value}
    {od__law_rounds an__law_rounds : Option Addr}
    {sl__law_rounds : Array (Option Value)}
    {oc_in_turn kV_in_turn dc_in_turn pm_in_turn cd_in_turn ct_in_turn : Value}
    {od_in_turn an_in_turn : Option Addr}
    {sl_in_turn : Array (Option Value)}
    {oc_all_ways kV_all_ways dc_all_ways pm_all_ways cd_all_ways ct_all_ways : Value}
    {od_all_ways an_all_ways : Option Addr}
    {sl_all_ways : Array (Option Value)}
    {oc__law_roll kV__law_roll dc__law_roll pm__law_roll cd__law_roll ct__law_roll : Value}
    {od__law_roll an__law_roll : Option Addr}
    {sl__law_roll : Array (Option Value)}
    {oc__law_full kV__law_full dc__law_full pm__law_full cd__law_full ct__law_full : Value}
    {od__law_full an__law_full : Option Addr}
    {sl__law_full : Array (Option Value)}
    {oc__law_list kV__law_list dc__law_list pm__law_list cd__law_list ct__law_list : Value}
    {od__law_list an__law_list : Option Addr}
    {sl__law_list : Array (Option Value)}
    {oc_Wish___init__ kV_Wish___init__ dc_Wish___init__ pm_Wish___init__ cd_Wish___init__ ct_Wish___init__ : Value}
    {od_Wish___init__ an_Wish___init__ : Option Addr}
    {sl_Wish___init__ : Array (Option Value)}
    {oc_Wish_rank kV_Wish_rank dc_Wish_rank pm_Wish_rank cd_Wish_rank ct_Wish_rank : Value}
    {od_Wish_rank an_Wish_rank : Option Addr}
    {sl_Wish_rank : Array (Option Value)}
    {oc_Wish_ahead_of kV_Wish_ahead_of dc_Wish_ahead_of pm_Wish_ahead_of cd_Wish_ahead_of ct_Wish_ahead_of : Value}
    {od_Wish_ahead_of an_Wish_ahead_of : Option Addr}
    {sl_Wish_ahead_of : Array (Option Value)}
    {oc_improved kV_improved dc_improved pm_improved cd_improved ct_improved : Value}
    {od_improved an_improved : Option Addr}
    {sl_improved : Array (Option Value)}
    {oc_turn_for kV_turn_for dc_turn_for pm_turn_for cd_turn_for ct_turn_for : Value}
    {od_turn_for an_turn_for : Option Addr}
    {sl_turn_for : Array (Option Value)}
    {oc_law kV_law dc_law pm_law cd_law ct_law : Value}
    {od_law an_law : Option Addr}
    {sl_law : Array (Option Value)}
    (aC_Wish : PySem.W.nsIn K mainGlobals "Wish" = some (some (.ref C_Wish)))
    (a__law_dice : PySem.W.nsIn K mainGlobals "_law_dice" = some (some (.ref f__law_dice)))
    (l__law_dice : K.lookup f__law_dice = some ⟨oc__law_dice, od__law_dice, .func (PySem.W.fnOf "_law_dice" "_law_dice" (defArgs s__law_dice) (defBody s__law_dice) (defScope s__law_dice) .none kV__law_dice dc__law_dice pm__law_dice an__law_dice cd__law_dice ct__law_dice), sl__law_dice⟩)
    (c__law_dice : PySem.W.codeIn K cd__law_dice "_law_dice" = true)
    (k__law_dice : PySem.W.keepIn K (.ref f__law_dice) = true)
    (a__law_rounds : PySem.W.nsIn K mainGlobals "_law_rounds" = some (some (.ref f__law_rounds)))
    (l__law_rounds : K.lookup f__law_rounds = some ⟨oc__law_rounds, od__law_rounds, .func (PySem.W.fnOf "_law_rounds" "_law_rounds" (defArgs s__law_rounds) (defBody s__law_rounds) (defScope s__law_rounds) .none kV__law_rounds dc__law_rounds pm__law_rounds an__law_rounds cd__law_rounds ct__law_rounds), sl__law_rounds⟩)
    (c__law_rounds : PySem.W.codeIn K cd__law_rounds "_law_rounds" = true)
    (k__law_rounds : PySem.W.keepIn K (.ref f__law_rounds) = true)
    (a_in_turn : PySem.W.nsIn K mainGlobals "in_turn" = some (some (.ref f_in_turn)))
    (l_in_turn : K.lookup f_in_turn = some ⟨oc_in_turn, od_in_turn, .func (PySem.W.fnOf "in_turn" "in_turn" (defArgs s_in_turn) (defBody s_in_turn) (defScope s_in_turn) .none kV_in_turn dc_in_turn pm_in_turn an_in_turn cd_in_turn ct_in_turn), sl_in_turn⟩)
    (c_in_turn : PySem.W.codeIn K cd_in_turn "in_turn" = true)
    (k_in_turn : PySem.W.keepIn K (.ref f_in_turn) = true)
    (a_all_ways : PySem.W.nsIn K mainGlobals "all_ways" = some (some (.ref f_all_ways)))
    (l_all_ways : K.lookup f_all_ways = some ⟨oc_all_ways, od_all_ways, .func (PySem.W.fnOf "all_ways" "all_ways" (defArgs s_all_ways) (defBody s_all_ways) (defScope s_all_ways) .none kV_all_ways dc_all_ways pm_all_ways an_all_ways cd_all_ways ct_all_ways), sl_all_ways⟩)
    (c_all_ways : PySem.W.codeIn K cd_all_ways "all_ways" = true)
    (k_all_ways : PySem.W.keepIn K (.ref f_all_ways) = true)
    (a__law_roll : PySem.W.nsIn K mainGlobals "_law_roll" = some (some (.ref f__law_roll)))
    (l__law_roll : K.lookup f__law_roll = some ⟨oc__law_roll, od__law_roll, .func (PySem.W.fnOf "_law_roll" "_law_roll" (defArgs s__law_roll) (defBody s__law_roll) (defScope s__law_roll) .none kV__law_roll dc__law_roll pm__law_roll an__law_roll cd__law_roll ct__law_roll), sl__law_roll⟩)
    (c__law_roll : PySem.W.codeIn K cd__law_roll "_law_roll" = true)
    (k__law_roll : PySem.W.keepIn K (.ref f__law_roll) = true)
    (a__law_full : PySem.W.nsIn K mainGlobals "_law_full" = some (some (.ref f__law_full)))
    (l__law_full : K.lookup f__law_full = some ⟨oc__law_full, od__law_full, .func (PySem.W.fnOf "_law_full" "_law_full" (defArgs s__law_full) (defBody s__law_full) (defScope s__law_full) .none kV__law_full dc__law_full pm__law_full an__law_full cd__law_full ct__law_full), sl__law_full⟩)
    (c__law_full : PySem.W.codeIn K cd__law_full "_law_full" = true)
    (k__law_full : PySem.W.keepIn K (.ref f__law_full) = true)
    (a__law_list : PySem.W.nsIn K mainGlobals "_law_list" = some (some (.ref f__law_list)))
    (l__law_list : K.lookup f__law_list = some ⟨oc__law_list, od__law_list, .func (PySem.W.fnOf "_law_list" "_law_list" (defArgs s__law_list) (defBody s__law_list) (defScope s__law_list) .none kV__law_list dc__law_list pm__law_list an__law_list cd__law_list ct__law_list), sl__law_list⟩)
    (c__law_list : PySem.W.codeIn K cd__law_list "_law_list" = true)
    (k__law_list : PySem.W.keepIn K (.ref f__law_list) = true)
    (a_Wish___init__ : PySem.W.findIn K (.ref C_Wish) "__init__" = some (some (.ref f_Wish___init__)))
    (i_Wish___init__ : PySem.W.isFn K (.ref f_Wish___init__) = true)
    (l_Wish___init__ : K.lookup f_Wish___init__ = some ⟨oc_Wish___init__, od_Wish___init__, .func (PySem.W.fnOf "__init__" "Wish.__init__" (defArgs s_Wish___init__) (defBody s_Wish___init__) (defScope s_Wish___init__) .none kV_Wish___init__ dc_Wish___init__ pm_Wish___init__ an_Wish___init__ cd_Wish___init__ ct_Wish___init__), sl_Wish___init__⟩)
    (c_Wish___init__ : PySem.W.codeIn K cd_Wish___init__ "Wish.__init__" = true)
    (k_Wish___init__ : PySem.W.keepIn K (.ref f_Wish___init__) = true)
    (a_Wish_rank : PySem.W.findIn K (.ref C_Wish) "rank" = some (some (.ref f_Wish_rank)))
    (i_Wish_rank : PySem.W.isFn K (.ref f_Wish_rank) = true)
    (l_Wish_rank : K.lookup f_Wish_rank = some ⟨oc_Wish_rank, od_Wish_rank, .func (PySem.W.fnOf "rank" "Wish.rank" (defArgs s_Wish_rank) (defBody s_Wish_rank) (defScope s_Wish_rank) .none kV_Wish_rank dc_Wish_rank pm_Wish_rank an_Wish_rank cd_Wish_rank ct_Wish_rank), sl_Wish_rank⟩)
    (c_Wish_rank : PySem.W.codeIn K cd_Wish_rank "Wish.rank" = true)
    (k_Wish_rank : PySem.W.keepIn K (.ref f_Wish_rank) = true)
    (a_Wish_ahead_of : PySem.W.findIn K (.ref C_Wish) "ahead_of" = some (some (.ref f_Wish_ahead_of)))
    (i_Wish_ahead_of : PySem.W.isFn K (.ref f_Wish_ahead_of) = true)
    (l_Wish_ahead_of : K.lookup f_Wish_ahead_of = some ⟨oc_Wish_ahead_of, od_Wish_ahead_of, .func (PySem.W.fnOf "ahead_of" "Wish.ahead_of" (defArgs s_Wish_ahead_of) (defBody s_Wish_ahead_of) (defScope s_Wish_ahead_of) .none kV_Wish_ahead_of dc_Wish_ahead_of pm_Wish_ahead_of an_Wish_ahead_of cd_Wish_ahead_of ct_Wish_ahead_of), sl_Wish_ahead_of⟩)
    (c_Wish_ahead_of : PySem.W.codeIn K cd_Wish_ahead_of "Wish.ahead_of" = true)
    (k_Wish_ahead_of : PySem.W.keepIn K (.ref f_Wish_ahead_of) = true)
    (a_improved : PySem.W.nsIn K mainGlobals "improved" = some (some (.ref f_improved)))
    (l_improved : K.lookup f_improved = some ⟨oc_improved, od_improved, .func (PySem.W.fnOf "improved" "improved" (defArgs s_improved) (defBody s_improved) (defScope s_improved) .none kV_improved dc_improved pm_improved an_improved cd_improved ct_improved), sl_improved⟩)
    (c_improved : PySem.W.codeIn K cd_improved "improved" = true)
    (k_improved : PySem.W.keepIn K (.ref f_improved) = true)
    (a_turn_for : PySem.W.nsIn K mainGlobals "turn_for" = some (some (.ref f_turn_for)))
    (l_turn_for : K.lookup f_turn_for = some ⟨oc_turn_for, od_turn_for, .func (PySem.W.fnOf "turn_for" "turn_for" (defArgs s_turn_for) (defBody s_turn_for) (defScope s_turn_for) .none kV_turn_for dc_turn_for pm_turn_for an_turn_for cd_turn_for ct_turn_for), sl_turn_for⟩)
    (c_turn_for : PySem.W.codeIn K cd_turn_for "turn_for" = true)
    (k_turn_for : PySem.W.keepIn K (.ref f_turn_for) = true)
    (a_law : PySem.W.nsIn K mainGlobals "law" = some (some (.ref f_law)))
    (l_law : K.lookup f_law = some ⟨oc_law, od_law, .func (PySem.W.fnOf "law" "law" (defArgs s_law) (defBody s_law) (defScope s_law) .none kV_law dc_law pm_law an_law cd_law ct_law), sl_law⟩)
    (c_law : PySem.W.codeIn K cd_law "law" = true)
    (k_law : PySem.W.keepIn K (.ref f_law) = true)
    (pg_Wish : PySem.W.plainGet K C_Wish Str.empty = true)
    (hd_Wish : PySem.W.hasDictIn K C_Wish = true)
    (po_Wish : PySem.W.plainOver K C_Wish = true)
    (sa_Wish : PySem.W.findIn K (.ref C_Wish) "__setattr__" = some (some (.builtin "object.__setattr__")))
    (mk_Wish : PySem.W.makesIn K C_Wish = true)
    (kc_Wish : PySem.W.keepIn K (.ref C_Wish) = true)
    (n_order_0 : PySem.W.findIn K (.ref C_Wish) "order" = some none)
    (n_ranks_0 : PySem.W.findIn K (.ref C_Wish) "ranks" = some none)
    (z_abs : PySem.W.nsIn K mainGlobals "abs" = some none)
    (z_dict : PySem.W.nsIn K mainGlobals "dict" = some none)
    (z_enumerate : PySem.W.nsIn K mainGlobals "enumerate" = some none)
    (z_int : PySem.W.nsIn K mainGlobals "int" = some none)
    (z_len : PySem.W.nsIn K mainGlobals "len" = some none)
    (z_list : PySem.W.nsIn K mainGlobals "list" = some none)
    (z_range : PySem.W.nsIn K mainGlobals "range" = some none)
    (z_sorted : PySem.W.nsIn K mainGlobals "sorted" = some none)
    (z_tuple : PySem.W.nsIn K mainGlobals "tuple" = some none) :
    ∃ fd : FuncData, (∀ (s : Shared) (v : Value), BindsTo s fd ⟨[v], []⟩ [("_law_script", v)]) ∧ ∀ base : Heap, K.In base → base.Ns mainGlobals mg → FnOk l.prog w K mg base (L2.CX l.prog w) 8 fa fd ["_law_script"] (spLaw K) := by
  have e := hfa.symm.trans (PySem.W.mg_of X G a_law)
  have e2 : f_law = fa := by cases e; rfl
  subst e2
  have F__law_dice := fun_mk (st := s__law_dice) l__law_dice c__law_dice k__law_dice
  have F__law_rounds := fun_mk (st := s__law_rounds) l__law_rounds c__law_rounds k__law_rounds
  have F_in_turn := fun_mk (st := s_in_turn) l_in_turn c_in_turn k_in_turn
  have F_all_ways := fun_mk (st := s_all_ways) l_all_ways c_all_ways k_all_ways
  have F__law_roll := fun_mk (st := s__law_roll) l__law_roll c__law_roll k__law_roll
  have F__law_full := fun_mk (st := s__law_full) l__law_full c__law_full k__law_full
  have F__law_list := fun_mk (st := s__law_list) l__law_list c__law_list k__law_list
  have F_Wish___init__ := fun_mk (st := s_Wish___init__) l_Wish___init__ c_Wish___init__ k_Wish___init__
  have F_Wish_rank := fun_mk (st := s_Wish_rank) l_Wish_rank c_Wish_rank k_Wish_rank
  have F_Wish_ahead_of := fun_mk (st := s_Wish_ahead_of) l_Wish_ahead_of c_Wish_ahead_of k_Wish_ahead_of
  have F_improved := fun_mk (st := s_improved) l_improved c_improved k_improved
  have F_turn_for := fun_mk (st := s_turn_for) l_turn_for c_turn_for k_turn_for
  have F_law := fun_mk (st := s_law) l_law c_law k_law
  have T : Txt K mg ⟨⟨fun n => match n with | 0 => C_Wish | _ => C_Wish, KL K⟩, []⟩ { f__law_dice := f__law_dice, d__law_dice := PySem.W.fnOf "_law_dice" "_law_dice" (defArgs s__law_dice) (defBody s__law_dice) (defScope s__law_dice) .none kV__law_dice dc__law_dice pm__law_dice an__law_dice cd__law_dice ct__law_dice, f__law_rounds := f__law_rounds, d__law_rounds := PySem.W.fnOf "_law_rounds" "_law_rounds" (defArgs s__law_rounds) (defBody s__law_rounds) (defScope s__law_rounds) .none kV__law_rounds dc__law_rounds pm__law_rounds an__law_rounds cd__law_rounds ct__law_rounds, f_in_turn := f_in_turn, d_in_turn := PySem.W.fnOf "in_turn" "in_turn" (defArgs s_in_turn) (defBody s_in_turn) (defScope s_in_turn) .none kV_in_turn dc_in_turn pm_in_turn an_in_turn cd_in_turn ct_in_turn, f_all_ways := f_all_ways, d_all_ways := PySem.W.fnOf "all_ways" "all_ways" (defArgs s_all_ways) (defBody s_all_ways) (defScope s_all_ways) .none kV_all_ways dc_all_ways pm_all_ways an_all_ways cd_all_ways ct_all_ways, f__law_roll := f__law_roll, d__law_roll := PySem.W.fnOf "_law_roll" "_law_roll" (defArgs s__law_roll) (defBody s__law_roll) (defScope s__law_roll) .none kV__law_roll dc__law_roll pm__law_roll an__law_roll cd__law_roll ct__law_roll, f__law_full := f__law_full, d__law_full := PySem.W.fnOf "_law_full" "_law_full" (defArgs s__law_full) (defBody s__law_full) (defScope s__law_full) .none kV__law_full dc__law_full pm__law_full an__law_full cd__law_full ct__law_full, f__law_list := f__law_list, d__law_list := PySem.W.fnOf "_law_list" "_law_list" (defArgs s__law_list) (defBody s__law_list) (defScope s__law_list) .none kV__law_list dc__law_list pm__law_list an__law_list cd__law_list ct__law_list, f_Wish___init__ := f_Wish___init__, d_Wish___init__ := PySem.W.fnOf "__init__" "Wish.__init__" (defArgs s_Wish___init__) (defBody s_Wish___init__) (defScope s_Wish___init__) .none kV_Wish___init__ dc_Wish___init__ pm_Wish___init__ an_Wish___init__ cd_Wish___init__ ct_Wish___init__, f_Wish_rank := f_Wish_rank, d_Wish_rank := PySem.W.fnOf "rank" "Wish.rank" (defArgs s_Wish_rank) (defBody s_Wish_rank) (defScope s_Wish_rank) .none kV_Wish_rank dc_Wish_rank pm_Wish_rank an_Wish_rank cd_Wish_rank ct_Wish_rank, f_Wish_ahead_of := f_Wish_ahead_of, d_Wish_ahead_of := PySem.W.fnOf "ahead_of" "Wish.ahead_of" (defArgs s_Wish_ahead_of) (defBody s_Wish_ahead_of) (defScope s_Wish_ahead_of) .none kV_Wish_ahead_of dc_Wish_ahead_of pm_Wish_ahead_of an_Wish_ahead_of cd_Wish_ahead_of ct_Wish_ahead_of, f_improved := f_improved, d_improved := PySem.W.fnOf "improved" "improved" (defArgs s_improved) (defBody s_improved) (defScope s_improved) .none kV_improved dc_improved pm_improved an_improved cd_improved ct_improved, f_turn_for := f_turn_for, d_turn_for := PySem.W.fnOf "turn_for" "turn_for" (defArgs s_turn_for) (defBody s_turn_for) (defScope s_turn_for) .none kV_turn_for dc_turn_for pm_turn_for an_turn_for cd_turn_for ct_turn_for, f_law := f_law, d_law := PySem.W.fnOf "law" "law" (defArgs s_law) (defBody s_law) (defScope s_law) .none kV_law dc_law pm_law an_law cd_law ct_law } := {
    b_abs := PySem.W.mg_none_of X G z_abs,
    b_dict := PySem.W.mg_none_of X G z_dict,
    b_enumerate := PySem.W.mg_none_of X G z_enumerate,
    b_int := PySem.W.mg_none_of X G z_int,
    b_len := PySem.W.mg_none_of X G z_len,
    b_list := PySem.W.mg_none_of X G z_list,
    b_range := PySem.W.mg_none_of X G z_range,
    b_sorted := PySem.W.mg_none_of X G z_sorted,
    b_tuple := PySem.W.mg_none_of X G z_tuple,
    F__law_dice := F__law_dice,
    B__law_dice := F__law_dice.binds (ps := ["_law_cell"]) fun _ _ _ _ _ _ us hl => match us, hl with | [_], _ => rfl,
    m__law_dice := PySem.W.mg_of X G a__law_dice,
    F__law_rounds := F__law_rounds,
    B__law_rounds := F__law_rounds.binds (ps := ["_law_script", "_law_most_now"]) fun _ _ _ _ _ _ us hl => match us, hl with | [_, _], _ => rfl,
    m__law_rounds := PySem.W.mg_of X G a__law_rounds,
    F_in_turn := F_in_turn,
    B_in_turn := F_in_turn.binds (ps := ["lists", "order"]) fun _ _ _ _ _ _ us hl => match us, hl with | [_, _], _ => rfl,
    m_in_turn := PySem.W.mg_of X G a_in_turn,
    F_all_ways := F_all_ways,
    B_all_ways := F_all_ways.binds (ps := ["things"]) fun _ _ _ _ _ _ us hl => match us, hl with | [_], _ => rfl,
    m_all_ways := PySem.W.mg_of X G a_all_ways,
    F__law_roll := F__law_roll,
    B__law_roll := F__law_roll.binds (ps := ["_law_dice_here", "_law_many"]) fun _ _ _ _ _ _ us hl => match us, hl with | [_, _], _ => rfl,
    m__law_roll := PySem.W.mg_of X G a__law_roll,
    F__law_full := F__law_full,
    B__law_full := F__law_full.binds (ps := ["_law_dice_here", "_law_many"]) fun _ _ _ _ _ _ us hl => match us, hl with | [_, _], _ => rfl,
    m__law_full := PySem.W.mg_of X G a__law_full,
    F__law_list := F__law_list,
    B__law_list := F__law_list.binds (ps := ["_law_dice_here", "_law_many"]) fun _ _ _ _ _ _ us hl => match us, hl with | [_, _], _ => rfl,
    m__law_list := PySem.W.mg_of X G a__law_list,
    F_Wish___init__ := F_Wish___init__,
    B_Wish___init__ := F_Wish___init__.binds (ps := ["self", "order"]) fun _ _ _ _ _ _ us hl => match us, hl with | [_, _], _ => rfl,
    F_Wish_rank := F_Wish_rank,
    B_Wish_rank := F_Wish_rank.binds (ps := ["self", "one"]) fun _ _ _ _ _ _ us hl => match us, hl with | [_, _], _ => rfl,
    F_Wish_ahead_of := F_Wish_ahead_of,
    B_Wish_ahead_of := F_Wish_ahead_of.binds (ps := ["self", "one"]) fun _ _ _ _ _ _ us hl => match us, hl with | [_, _], _ => rfl,
    F_improved := F_improved,
    B_improved := F_improved.binds (ps := ["lists", "got"]) fun _ _ _ _ _ _ us hl => match us, hl with | [_, _], _ => rfl,
    m_improved := PySem.W.mg_of X G a_improved,
    F_turn_for := F_turn_for,
    B_turn_for := F_turn_for.binds (ps := ["lists", "got"]) fun _ _ _ _ _ _ us hl => match us, hl with | [_, _], _ => rfl,
    m_turn_for := PySem.W.mg_of X G a_turn_for,
    F_law := F_law,
    B_law := F_law.binds (ps := ["_law_script"]) fun _ _ _ _ _ _ us hl => match us, hl with | [_], _ => rfl,
    m_law := PySem.W.mg_of X G a_law,
    C_Wish := ⟨pg_Wish, hd_Wish, po_Wish, sa_Wish⟩,
    m_Wish := PySem.W.mg_of X G aC_Wish,
    K_Wish := ⟨mk_Wish, a_Wish___init__, i_Wish___init__, kc_Wish⟩,
    M_Wish_rank := ⟨a_Wish_rank, i_Wish_rank, k_Wish_rank⟩,
    M_Wish_ahead_of := ⟨a_Wish_ahead_of, i_Wish_ahead_of, k_Wish_ahead_of⟩,
    kl := fun _ _ h => h,
    n_order := ⟨List.forall_mem_cons.mpr ⟨⟨⟨pg_Wish, hd_Wish, po_Wish, sa_Wish⟩, n_order_0⟩, fun _ h => by cases h⟩⟩,
    n_ranks := ⟨List.forall_mem_cons.mpr ⟨⟨⟨pg_Wish, hd_Wish, po_Wish, sa_Wish⟩, n_ranks_0⟩, fun _ h => by cases h⟩⟩ }
  exact ⟨PySem.W.fnOf "law" "law" (defArgs s_law) (defBody s_law) (defScope s_law) .none kV_law dc_law pm_law an_law cd_law ct_law, fun s v => .of_eq rfl, fun base _ _ => (ok_law T).imp (spLaw_of (fun _ _ h => h) rfl hT)⟩
theorem walk {l : PySem.W.OpenLaw} {q : Program} {loose : List Str} {XP : (Str → Option Value) → Heap → Prop} {YP : World → Heap → Prop} {d : DefRec} {K : Params → PySem.W.Frag} (hn : l.most = some 63) (hdf : d.params.defaults = [])
    (hY : ∀ (w : World) (h : Heap), YP w h → (K w.params).In h)
    (F : ∀ (w : World) (mg : Str → Option Value) (fa : Addr) (h : Heap), (K w.params).In h → h.Ns mainGlobals mg → mg d.name = some (.ref fa) →
      ∃ fd : FuncData, (∀ (s : Shared) (u : Value), BindsTo s fd ⟨[u], []⟩ [("_law_script", u)]) ∧ ∀ base : Heap, (K w.params).In base → base.Ns mainGlobals mg → FnOk l.prog w (K w.params) mg base (L2.CX l.prog w) 8 fa fd ["_law_script"] (spLaw (K w.params))) :
    PySem.W.WalkO q loose XP YP l.row.toRowW d [] (fun f vs => PySem.call f vs) :=
  L2.walk_of (n := 63) (k := 8) (x := "_law_script") (CX := fun w => L2.CX l.prog w) (sp := fun w => spLaw (K w.params)) hn (by decide) hdf ⟨rfl, by decide, by decide⟩ hY F (fun _ _ a ns hl _ hS => ⟨a, ns, rfl, hS, hl, fun _ => rfl⟩) fun _ _ _ _ _ ⟨_, _, _, _, _, _, _, _, _, _, _, _, z⟩ => z
end FD.K13
open PySem PySem.W PyProof.Rows in
set_option maxRecDepth 100000 in
set_option maxHeartbeats 0 in
theorem PySem.Challenge.cw_pairmart_k13_taking_turns_holds : PySem.Challenge.rw_pairmart_k13_taking_turns.Holds := by
  w_on; o_law; k_head; (case hw => w_witness2)
  k_fill
  refine FD.K13.walk (l := PySem.Challenge.rw_pairmart_k13_taking_turns) rfl rfl (fun w h Y => PySem.W.kIn_of Y) ?F
  case F =>
    intro w mg fa h KX G hmg
    refine' FD.K13.all_mk FD.K13.always KX G hmg ?aC_Wish ?a__law_dice ?l__law_dice ?c__law_dice ?k__law_dice ?a__law_rounds ?l__law_rounds ?c__law_rounds ?k__law_rounds ?a_in_turn ?l_in_turn ?c_in_turn ?k_in_turn ?a_all_ways ?l_all_ways ?c_all_ways ?k_all_ways ?a__law_roll ?l__law_roll ?c__law_roll ?k__law_roll ?a__law_full ?l__law_full ?c__law_full ?k__law_full ?a__law_list ?l__law_list ?c__law_list ?k__law_list ?a_Wish___init__ ?i_Wish___init__ ?l_Wish___init__ ?c_Wish___init__ ?k_Wish___init__ ?a_Wish_rank ?i_Wish_rank ?l_Wish_rank ?c_Wish_rank ?k_Wish_rank ?a_Wish_ahead_of ?i_Wish_ahead_of ?l_Wish_ahead_of ?c_Wish_ahead_of ?k_Wish_ahead_of ?a_improved ?l_improved ?c_improved ?k_improved ?a_turn_for ?l_turn_for ?c_turn_for ?k_turn_for ?a_law ?l_law ?c_law ?k_law ?pg_Wish ?hd_Wish ?po_Wish ?sa_Wish ?mk_Wish ?kc_Wish ?n_order_0 ?n_ranks_0 ?z_abs ?z_dict ?z_enumerate ?z_int ?z_len ?z_list ?z_range ?z_sorted ?z_tuple
    (case aC_Wish => k_is)
    (case a__law_dice => k_is)
    (case l__law_dice => k_is)
    (case c__law_dice => k_is)
    (case k__law_dice => k_is)
    (case a__law_rounds => k_is)
    (case l__law_rounds => k_is)
    (case c__law_rounds => k_is)
    (case k__law_rounds => k_is)
    (case a_in_turn => k_is)
    (case l_in_turn => k_is)
    (case c_in_turn => k_is)
    (case k_in_turn => k_is)
    (case a_all_ways => k_is)
    (case l_all_ways => k_is)
    (case c_all_ways => k_is)
    (case k_all_ways => k_is)
    (case a__law_roll => k_is)
    (case l__law_roll => k_is)
    (case c__law_roll => k_is)
    (case k__law_roll => k_is)
    (case a__law_full => k_is)
    (case l__law_full => k_is)
    (case c__law_full => k_is)
    (case k__law_full => k_is)
    (case a__law_list => k_is)
    (case l__law_list => k_is)
    (case c__law_list => k_is)
    (case k__law_list => k_is)
    (case a_Wish___init__ => k_is)
    (case i_Wish___init__ => k_is)
    (case l_Wish___init__ => k_is)
    (case c_Wish___init__ => k_is)
    (case k_Wish___init__ => k_is)
    (case a_Wish_rank => k_is)
    (case i_Wish_rank => k_is)
    (case l_Wish_rank => k_is)
    (case c_Wish_rank => k_is)
    (case k_Wish_rank => k_is)
    (case a_Wish_ahead_of => k_is)
    (case i_Wish_ahead_of => k_is)
    (case l_Wish_ahead_of => k_is)
    (case c_Wish_ahead_of => k_is)
    (case k_Wish_ahead_of => k_is)
    (case a_improved => k_is)
    (case l_improved => k_is)
    (case c_improved => k_is)
    (case k_improved => k_is)
    (case a_turn_for => k_is)
    (case l_turn_for => k_is)
    (case c_turn_for => k_is)
    (case k_turn_for => k_is)
    (case a_law => k_is)
    (case l_law => k_is)
    (case c_law => k_is)
    (case k_law => k_is)
    (case pg_Wish => k_is)
    (case hd_Wish => k_is)
    (case po_Wish => k_is)
    (case sa_Wish => k_is)
    (case mk_Wish => k_is)
    (case kc_Wish => k_is)
    (case n_order_0 => k_is)
    (case n_ranks_0 => k_is)
    (case z_abs => k_is)
    (case z_dict => k_is)
    (case z_enumerate => k_is)
    (case z_int => k_is)
    (case z_len => k_is)
    (case z_list => k_is)
    (case z_range => k_is)
    (case z_sorted => k_is)
    (case z_tuple => k_is)

