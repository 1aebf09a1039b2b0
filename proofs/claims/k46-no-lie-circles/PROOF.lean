import PyProof.Rows.All
import Wide.All
import OpenK.AllK
import Wide.FinOn
import HandS.ForMost
import HandS.ForExc
import HandS.Walk
import HandS.Lambda
import HandS.Conv
import HandS.Deep
import HandS.TupAny
import HandS.NoneIn
import KE.GoesEnum
import KE.GoesMore
import HandS.WordsExc
import HandS.ExcOwn
import HandS.SortInts
import HandS.Strs
import HandS.Remove
import HandS.Style
import HandS.AnyAll
import KE.KMinKey
import HandS.SortKw
import HandS.EndTab
import KE.KNestM
import HandS.SortRule
import HandS.Exc
import HandS.TryMany
import HandS.Defaults
import HandS.CallSlots
import KE.DataMinMax
import HandS.More
import KE.KDictPairs
import HandS.NamedTupSort
import PySem.Challenge.RW_pairmart_k46_no_lie_helps_in_circles_and
set_option Elab.async false
set_option linter.all false
set_option maxRecDepth 100000
namespace FD
noncomputable section
open PySem L2

noncomputable def lim : Nat := Classical.choose (⟨sizeLine, rfl⟩ : ∃ n : Nat, n = sizeLine)
theorem lim_eq : lim = sizeLine := Classical.choose_spec (⟨sizeLine, rfl⟩ : ∃ n : Nat, n = sizeLine)
theorem lim_le {n : Nat} (h : n ≤ lim) : n ≤ sizeLine := by rw [← lim_eq]; exact h
def b62 : Int := Classical.choose (⟨2 ^ 62, rfl⟩ : ∃ n : Int, n = 2 ^ 62)
theorem b62_eq : b62 = 2 ^ 62 := Classical.choose_spec (⟨2 ^ 62, rfl⟩ : ∃ n : Int, n = 2 ^ 62)
def b30 : Int := Classical.choose (⟨1073741824, rfl⟩ : ∃ n : Int, n = 1073741824)
theorem b30_eq : b30 = 1073741824 := Classical.choose_spec (⟨1073741824, rfl⟩ : ∃ n : Int, n = 1073741824)
def okI (j : Int) : Bool := decide (-b62 ≤ j) && decide (j < b62)
theorem okI_ok {j : Int} (h : okI j = true) : -(2 ^ 62) ≤ j ∧ j < 2 ^ 62 := by
  unfold okI at h; rw [Bool.and_eq_true, b62_eq] at h; exact ⟨of_decide_eq_true h.1, of_decide_eq_true h.2⟩
theorem okI_of {j : Int} (h1 : -(2 ^ 62) ≤ j) (h2 : j < 2 ^ 62) : okI j = true := by
  unfold okI; rw [Bool.and_eq_true, b62_eq]; exact ⟨decide_eq_true h1, decide_eq_true h2⟩
def okJ (j : Int) : Bool := decide (0 < j) && decide (j < b30)
theorem okJ_ok {j : Int} (h : okJ j = true) : 0 < j ∧ j < 1073741824 := by
  unfold okJ at h; rw [Bool.and_eq_true, b30_eq] at h; exact ⟨of_decide_eq_true h.1, of_decide_eq_true h.2⟩
theorem okJ_of {j : Int} (h1 : 0 < j) (h2 : j < 1073741824) : okJ j = true := by
  unfold okJ; rw [Bool.and_eq_true, b30_eq]; exact ⟨decide_eq_true h1, decide_eq_true h2⟩
inductive D where
  | non | bl (b : Bool) | int (i : Int) | str (s : Str)
  | tup (m : Bool) (xs : List D)
  | lst (xs : List D)
  | frl (xs : List D)
  | dK (kvs : List (Key × D))
  | dT (kvs : List (List Key × D))
  | ins (c : Nat) (fs : List (Str × D))
inductive O where
  | sh (d : D)
  | lst (xs : List O)
  | dK (kvs : List (Key × O))
  | dT (kvs : List (List Key × O))
  | ins (c : Nat) (fs : List (Str × O))

mutual
def O.frz : O → D
  | .sh d => d
  | .lst xs => .lst (frzL xs)
  | .dK kvs => .dK (frzK kvs)
  | .dT kvs => .dT (frzT kvs)
  | .ins c fs => .ins c (frzS fs)
def frzL : List O → List D
  | [] => []
  | x :: xs => x.frz :: frzL xs
def frzK : List (Key × O) → List (Key × D)
  | [] => []
  | (k, x) :: xs => (k, x.frz) :: frzK xs
def frzT : List (List Key × O) → List (List Key × D)
  | [] => []
  | (k, x) :: xs => (k, x.frz) :: frzT xs
def frzS : List (Str × O) → List (Str × D)
  | [] => []
  | (k, x) :: xs => (k, x.frz) :: frzS xs
end
theorem frzL_map : ∀ xs : List O, frzL xs = xs.map O.frz
  | [] => rfl
  | x :: xs => by rw [frzL, frzL_map xs, List.map_cons]
theorem frzK_map : ∀ xs : List (Key × O), frzK xs = xs.map fun p => (p.1, p.2.frz)
  | [] => rfl
  | (k, x) :: xs => by rw [frzK, frzK_map xs, List.map_cons]
theorem frzT_map : ∀ xs : List (List Key × O), frzT xs = xs.map fun p => (p.1, p.2.frz)
  | [] => rfl
  | (k, x) :: xs => by rw [frzT, frzT_map xs, List.map_cons]
theorem frzS_map : ∀ xs : List (Str × O), frzS xs = xs.map fun p => (p.1, p.2.frz)
  | [] => rfl
  | (k, x) :: xs => by rw [frzS, frzS_map xs, List.map_cons]
@[simp] theorem frz_sh (d : D) : (O.sh d).frz = d := by rw [O.frz]
@[simp] theorem frz_lst (xs : List O) : (O.lst xs).frz = .lst (xs.map O.frz) := by rw [O.frz, frzL_map]
@[simp] theorem frz_dK (xs : List (Key × O)) : (O.dK xs).frz = .dK (xs.map fun p => (p.1, p.2.frz)) := by rw [O.frz, frzK_map]
@[simp] theorem frz_dT (xs : List (List Key × O)) : (O.dT xs).frz = .dT (xs.map fun p => (p.1, p.2.frz)) := by rw [O.frz, frzT_map]
@[simp] theorem frz_ins (c : Nat) (xs : List (Str × O)) : (O.ins c xs).frz = .ins c (xs.map fun p => (p.1, p.2.frz)) := by rw [O.frz, frzS_map]

abbrev Fp := Addr → Prop
def Emp : Fp := fun _ => False
def Sub (G H : Hp) : Prop := ∀ a o, G a = some o → H a = some o
def NoTbl : HO → Prop
  | .tbl _ => False
  | .ext _ => False
  | _ => True
def NT : HO → Prop
  | .tbl _ => False
  | _ => True
theorem NoTbl.nt {o : HO} (h : NoTbl o) : NT o := by cases o <;> first | exact True.intro | exact h

def TupAt (G : Hp) (p : Addr) (m : Bool) (vs : List V) : Prop := if m = true then ∃ o : Obj, G p = some (.frz o (.tup vs)) ∧ o.dict = none else G p = some (.tup vs)
structure Wc where
  cls : Nat → Addr
  kl : Addr → List V → Prop
inductive RpD (C : Wc) (G : Hp) : D → V → Prop
  | non : RpD C G .non .non
  | bl (b : Bool) : RpD C G (.bl b) (.bl b)
  | int (i : Int) : RpD C G (.int i) (.int i)
  | str (s : Str) : RpD C G (.str s) (.str s)
  | tup {m : Bool} {xs : List D} {p : Addr} {vs : List V} : TupAt G p m vs → xs.length = vs.length → (∀ (i : Nat) (d : D) (v : V), xs[i]? = some d → vs[i]? = some v → RpD C G d v) → RpD C G (.tup m xs) (.ref p)
  | frl {xs : List D} {p : Addr} {vs : List V} : (Rd G p (.lst vs) ∨ C.kl p vs) → xs.length = vs.length → (∀ (i : Nat) (d : D) (v : V), xs[i]? = some d → vs[i]? = some v → RpD C G d v) → RpD C G (.frl xs) (.ref p)
  | lst {xs : List D} {p : Addr} {vs : List V} : G p = some (.lst vs) → xs.length = vs.length → (∀ (i : Nat) (d : D) (v : V), xs[i]? = some d → vs[i]? = some v → RpD C G d v) → RpD C G (.lst xs) (.ref p)
  | dK {xs : List (Key × D)} {p : Addr} {vs : List (Key × V)} : G p = some (.dK vs) → xs.map (·.1) = vs.map (·.1) → (∀ (i : Nat) (d : D) (v : V), (xs.map (·.2))[i]? = some d → (vs.map (·.2))[i]? = some v → RpD C G d v) → RpD C G (.dK xs) (.ref p)
  | dT {xs : List (List Key × D)} {p : Addr} {vs : List (List Key × V)} : G p = some (.dT vs) → xs.map (·.1) = vs.map (·.1) → (∀ (i : Nat) (d : D) (v : V), (xs.map (·.2))[i]? = some d → (vs.map (·.2))[i]? = some v → RpD C G d v) → RpD C G (.dT xs) (.ref p)
  | ins {c : Nat} {xs : List (Str × D)} {p dx : Addr} {vs : List (Str × V)} : G p = some (.ins (C.cls c) dx vs) → xs.map (·.1) = vs.map (·.1) → (∀ (i : Nat) (d : D) (v : V), (xs.map (·.2))[i]? = some d → (vs.map (·.2))[i]? = some v → RpD C G d v) → RpD C G (.ins c xs) (.ref p)

inductive RpO (C : Wc) (G H : Hp) : O → V → Fp → Prop
  | sh {d : D} {v : V} {F : Fp} : RpD C G d v → (∀ a, ¬ F a) → RpO C G H (.sh d) v F
  | lst {xs : List O} {p : Addr} {vs : List V} {F : Fp} (Fs : Nat → Fp) : G p = none → H p = some (.lst vs) → xs.length = vs.length → (∀ (i : Nat) (d : O) (v : V), xs[i]? = some d → vs[i]? = some v → RpO C G H d v (Fs i)) →
      (∀ (i j : Nat) (a : Addr), i ≠ j → Fs i a → ¬ Fs j a) → (∀ (i : Nat) (a : Addr), Fs i a → i < xs.length ∧ a ≠ p) → (∀ a, F a ↔ a = p ∨ ∃ i, Fs i a) → RpO C G H (.lst xs) (.ref p) F
  | dK {xs : List (Key × O)} {p : Addr} {vs : List (Key × V)} {F : Fp} (Fs : Nat → Fp) : G p = none → H p = some (.dK vs) → xs.map (·.1) = vs.map (·.1) → (∀ (i : Nat) (d : O) (v : V), (xs.map (·.2))[i]? = some d → (vs.map (·.2))[i]? = some v → RpO C G H d v (Fs i)) →
      (∀ (i j : Nat) (a : Addr), i ≠ j → Fs i a → ¬ Fs j a) → (∀ (i : Nat) (a : Addr), Fs i a → i < xs.length ∧ a ≠ p) → (∀ a, F a ↔ a = p ∨ ∃ i, Fs i a) → RpO C G H (.dK xs) (.ref p) F
  | dT {xs : List (List Key × O)} {p : Addr} {vs : List (List Key × V)} {F : Fp} (Fs : Nat → Fp) : G p = none → H p = some (.dT vs) → xs.map (·.1) = vs.map (·.1) → (∀ (i : Nat) (d : O) (v : V), (xs.map (·.2))[i]? = some d → (vs.map (·.2))[i]? = some v → RpO C G H d v (Fs i)) →
      (∀ (i j : Nat) (a : Addr), i ≠ j → Fs i a → ¬ Fs j a) → (∀ (i : Nat) (a : Addr), Fs i a → i < xs.length ∧ a ≠ p) → (∀ a, F a ↔ a = p ∨ ∃ i, Fs i a) → RpO C G H (.dT xs) (.ref p) F
  | ins {c : Nat} {xs : List (Str × O)} {p dx : Addr} {vs : List (Str × V)} {F : Fp} (Fs : Nat → Fp) : G p = none → H p = some (.ins (C.cls c) dx vs) → xs.map (·.1) = vs.map (·.1) → (∀ (i : Nat) (d : O) (v : V), (xs.map (·.2))[i]? = some d → (vs.map (·.2))[i]? = some v → RpO C G H d v (Fs i)) →
      (∀ (i j : Nat) (a : Addr), i ≠ j → Fs i a → ¬ Fs j a) → (∀ (i : Nat) (a : Addr), Fs i a → i < xs.length ∧ a ≠ p) → (∀ a, F a ↔ a = p ∨ ∃ i, Fs i a) → RpO C G H (.ins c xs) (.ref p) F

section
variable {C : Wc} {G G' H H' : Hp}
theorem Rd.sub {a : Addr} {u : HO} (s : Sub G G') (h : Rd G a u) : Rd G' a u := by
  rcases h with h | ⟨o, h⟩
  · exact .inl (s _ _ h)
  · exact .inr ⟨o, s _ _ h⟩
theorem TupAt.sub {p : Addr} {m : Bool} {vs : List V} (s : Sub G G') (h : TupAt G p m vs) : TupAt G' p m vs := by
  cases m with
  | false => exact s _ _ h
  | true =>
    obtain ⟨o, h, e⟩ := h
    exact ⟨o, s _ _ h, e⟩
theorem TupAt.rd {p : Addr} {m : Bool} {vs : List V} (h : TupAt G p m vs) : Rd G p (.tup vs) := by
  cases m with
  | false => exact .inl h
  | true =>
    obtain ⟨o, h, e⟩ := h
    exact .inr ⟨o, h⟩
theorem RpD.sub {d : D} {v : V} (s : Sub G G') (h : RpD C G d v) : RpD C G' d v := by
  induction h with
  | non => exact .non
  | bl b => exact .bl b
  | int i => exact .int i
  | str x => exact .str x
  | tup r l _ ih => exact .tup (r.sub s) l ih
  | lst r l _ ih => exact .lst (s _ _ r) l ih
  | frl r l _ ih => exact .frl (r.imp (Rd.sub s) id) l ih
  | dK r l _ ih => exact .dK (s _ _ r) l ih
  | dT r l _ ih => exact .dT (s _ _ r) l ih
  | ins r l _ ih => exact .ins (s _ _ r) l ih
theorem RpO.own {d : O} {v : V} {F : Fp} (h : RpO C G H d v F) : ∀ a, F a → G a = none ∧ ∃ o, H a = some o ∧ NoTbl o := by
  induction h with
  | sh _ n => intro a ha; exact absurd ha (n a)
  | lst Fs g h l _ _ b hF ih =>
    intro a ha
    rcases (hF a).mp ha with rfl | ⟨i, hi⟩
    · exact ⟨g, _, h, True.intro⟩
    · obtain ⟨hl, _⟩ := b i a hi
      exact ih i _ _ (List.getElem?_eq_getElem hl) (List.getElem?_eq_getElem (by rw [← l]; exact hl)) a hi
  | dK Fs g h l _ _ b hF ih =>
    intro a ha
    rcases (hF a).mp ha with rfl | ⟨i, hi⟩
    · exact ⟨g, _, h, True.intro⟩
    · obtain ⟨hl, _⟩ := b i a hi
      have e : _ := congrArg List.length l
      simp only [List.length_map] at e
      exact ih i _ _ (List.getElem?_eq_getElem (by simpa using hl)) (List.getElem?_eq_getElem (by simpa [← e] using hl)) a hi
  | dT Fs g h l _ _ b hF ih =>
    intro a ha
    rcases (hF a).mp ha with rfl | ⟨i, hi⟩
    · exact ⟨g, _, h, True.intro⟩
    · obtain ⟨hl, _⟩ := b i a hi
      have e : _ := congrArg List.length l
      simp only [List.length_map] at e
      exact ih i _ _ (List.getElem?_eq_getElem (by simpa using hl)) (List.getElem?_eq_getElem (by simpa [← e] using hl)) a hi
  | ins Fs g h l _ _ b hF ih =>
    intro a ha
    rcases (hF a).mp ha with rfl | ⟨i, hi⟩
    · exact ⟨g, _, h, True.intro⟩
    · obtain ⟨hl, _⟩ := b i a hi
      have e : _ := congrArg List.length l
      simp only [List.length_map] at e
      exact ih i _ _ (List.getElem?_eq_getElem (by simpa using hl)) (List.getElem?_eq_getElem (by simpa [← e] using hl)) a hi
theorem RpO.keep {d : O} {v : V} {F : Fp} (s : Sub G G') (h : RpO C G H d v F) : (∀ a, F a → G' a = none ∧ H' a = H a) → RpO C G' H' d v F := by
  induction h with
  | sh r n => intro _; exact .sh (r.sub s) n
  | lst Fs g h l r dj b hF ih =>
    intro k
    obtain ⟨k1, k2⟩ := k _ ((hF _).mpr (.inl rfl))
    exact .lst Fs k1 (k2.trans h) l (fun i d v e1 e2 => ih i d v e1 e2 fun a ha => k a ((hF a).mpr (.inr ⟨i, ha⟩))) dj b hF
  | dK Fs g h l r dj b hF ih =>
    intro k
    obtain ⟨k1, k2⟩ := k _ ((hF _).mpr (.inl rfl))
    exact .dK Fs k1 (k2.trans h) l (fun i d v e1 e2 => ih i d v e1 e2 fun a ha => k a ((hF a).mpr (.inr ⟨i, ha⟩))) dj b hF
  | dT Fs g h l r dj b hF ih =>
    intro k
    obtain ⟨k1, k2⟩ := k _ ((hF _).mpr (.inl rfl))
    exact .dT Fs k1 (k2.trans h) l (fun i d v e1 e2 => ih i d v e1 e2 fun a ha => k a ((hF a).mpr (.inr ⟨i, ha⟩))) dj b hF
  | ins Fs g h l r dj b hF ih =>
    intro k
    obtain ⟨k1, k2⟩ := k _ ((hF _).mpr (.inl rfl))
    exact .ins Fs k1 (k2.trans h) l (fun i d v e1 e2 => ih i d v e1 e2 fun a ha => k a ((hF a).mpr (.inr ⟨i, ha⟩))) dj b hF
theorem get_map2 {κ α β : Type} {xs : List (κ × α)} {f : α → β} {i : Nat} {d : β} (h : ((xs.map fun p => (p.1, f p.2)).map (·.2))[i]? = some d) : ∃ x, (xs.map (·.2))[i]? = some x ∧ f x = d := by
  rw [List.map_map] at h
  have e : ((fun p : κ × β => p.2) ∘ fun p : κ × α => (p.1, f p.2)) = f ∘ (fun p : κ × α => p.2) := rfl
  rw [e, ← List.map_map, List.getElem?_map] at h
  cases q : (xs.map (·.2))[i]? with
  | none => rw [q] at h; cases h
  | some x => rw [q] at h; exact ⟨x, rfl, Option.some.inj h⟩
theorem RpO.froz {d : O} {v : V} {F : Fp} (s : Sub G G') (h : RpO C G H d v F) : (∀ a, F a → G' a = H a) → RpD C G' d.frz v := by
  induction h with
  | sh r n => intro _; rw [frz_sh]; exact r.sub s
  | lst Fs g h l r dj b hF ih =>
    intro k
    rw [frz_lst]
    refine .lst ((k _ ((hF _).mpr (.inl rfl))).trans h) (by simpa using l) fun i d v e1 e2 => ?_
    rw [List.getElem?_map] at e1
    rename_i xs _ _ _
    cases q : xs[i]? with
    | none => rw [q] at e1; cases e1
    | some x =>
      rw [q] at e1
      have e : x.frz = d := Option.some.inj e1
      rw [← e]
      exact ih i x v q e2 fun a ha => k a ((hF a).mpr (.inr ⟨i, ha⟩))
  | dK Fs g h l r dj b hF ih =>
    intro k
    rw [frz_dK]
    refine .dK ((k _ ((hF _).mpr (.inl rfl))).trans h) (by rw [List.map_map]; exact l) fun i d v e1 e2 => ?_
    obtain ⟨x, q, rfl⟩ := get_map2 e1
    exact ih i x v q e2 fun a ha => k a ((hF a).mpr (.inr ⟨i, ha⟩))
  | dT Fs g h l r dj b hF ih =>
    intro k
    rw [frz_dT]
    refine .dT ((k _ ((hF _).mpr (.inl rfl))).trans h) (by rw [List.map_map]; exact l) fun i d v e1 e2 => ?_
    obtain ⟨x, q, rfl⟩ := get_map2 e1
    exact ih i x v q e2 fun a ha => k a ((hF a).mpr (.inr ⟨i, ha⟩))
  | ins Fs g h l r dj b hF ih =>
    intro k
    rw [frz_ins]
    refine .ins ((k _ ((hF _).mpr (.inl rfl))).trans h) (by rw [List.map_map]; exact l) fun i d v e1 e2 => ?_
    obtain ⟨x, q, rfl⟩ := get_map2 e1
    exact ih i x v q e2 fun a ha => k a ((hF a).mpr (.inr ⟨i, ha⟩))
end

structure Wd where
  C : Wc
  tabs : List Addr
  lams : List (Addr × Str) := []
def TabE (P : Addr) : HO := .ext fun h => ∃ ps : Array Value, h.get? P = some { cls := .none, data := .fields ps } ∧ TriplesOk ps.toList
structure TabOk (W : Wd) (G H : Hp) : Prop where
  tabs : ∀ P ∈ W.tabs, H P = some (TabE P)
  lam : LamX.Tabs W.lams H
  g : ∀ p ∈ W.lams, G p.1 = none
section
variable {W : Wd} {G G' H : Hp} {p : Addr} {o o' : HO}
theorem TabOk.own (b : TabOk W G H) (hp : H p = none) : TabOk W G (upd H p o) where
  tabs := fun P hP => by
    have h := b.tabs P hP
    rw [upd_ne (ne_of_none h hp)]; exact h
  lam := b.lam.ext fun c u e => by rw [upd_ne (ne_of_none e hp)]; exact e
  g := b.g
theorem TabOk.sh (b : TabOk W G H) (hp : H p = none) : TabOk W (upd G p o) (upd H p o') where
  tabs := (b.own hp).tabs
  lam := (b.own hp).lam
  g := fun q hq => by
    obtain ⟨ps, h, _⟩ := b.lam q hq
    rw [upd_ne (ne_of_none h hp)]; exact b.g q hq
theorem TabOk.wr (b : TabOk W G H) (hH : H p = some o) (nt : NoTbl o) : TabOk W G (upd H p o') where
  tabs := fun P hP => by
    have h := b.tabs P hP
    rw [upd_ne fun e => by rw [e, hH] at h; cases h; exact nt]; exact h
  lam := fun q hq => by
    obtain ⟨ps, h1, h2, h3⟩ := b.lam q hq
    refine ⟨ps, by rw [upd_ne fun e => by rw [e, hH] at h1; cases h1; exact nt]; exact h1, h2, fun pos cv hc => ?_⟩
    obtain ⟨c, e1, e2⟩ := h3 pos cv hc
    exact ⟨c, e1, by rw [upd_ne fun e => by rw [e, hH] at e2; cases e2; exact nt]; exact e2⟩
  g := b.g
theorem TabOk.other (b : TabOk W G H) (h : ∀ a, G' a ≠ none → G a ≠ none ∨ ∃ o, H a = some o ∧ NoTbl o) : TabOk W G' H where
  tabs := b.tabs
  lam := b.lam
  g := fun q hq => by
    obtain ⟨ps, h1, _⟩ := b.lam q hq
    cases e : G' q.1 with
    | none => rfl
    | some u =>
      rcases h q.1 (by rw [e]; simp) with z | ⟨o, z, nt⟩
      · exact absurd (b.g q hq) z
      · rw [h1] at z; cases z; exact nt.elim
end

structure Step (W : Wd) (G H : Hp) (F : Fp) (G' H' : Hp) (F' : Fp) : Prop where
  g : Sub G G'
  h : ∀ a o, H a = some o → ¬ F a → NT o → H' a = some o
  t : ∀ a, H a ≠ none → H' a ≠ none
  n : ∀ a, G' a ≠ none → G a ≠ none ∨ F a ∨ H a = none
  f : ∀ a, F' a → F a ∨ H a = none
  le : Sub G' H'
  b : TabOk W G' H'
section
variable {W : Wd} {G G' G'' H H' H'' : Hp} {F F' F'' : Fp}
theorem Step.refl (le : Sub G H) (b : TabOk W G H) : Step W G H F G H F :=
  ⟨fun _ _ h => h, fun _ _ h _ _ => h, fun _ h => h, fun _ h => .inl h, fun _ h => .inl h, le, b⟩
theorem Step.refl' (le : Sub G H) (b : TabOk W G H) (s : ∀ a, F' a → F a) : Step W G H F G H F' :=
  ⟨fun _ _ h => h, fun _ _ h _ _ => h, fun _ h => h, fun _ h => .inl h, fun a h => .inl (s a h), le, b⟩
theorem free_back (s : Step W G H F G' H' F') {a : Addr} (h : H' a = none) : H a = none := by
  cases q : H a with
  | none => rfl
  | some o => exact absurd h (s.t a (by rw [q]; simp))
theorem Step.trans (s : Step W G H F G' H' F') (s' : Step W G' H' F' G'' H'' F'') : Step W G H F G'' H'' F'' where
  g := fun a o h => s'.g a o (s.g a o h)
  h := fun a o h nf nt => s'.h a o (s.h a o h nf nt) (fun q => by
    rcases s.f a q with z | z
    · exact nf z
    · rw [h] at z; cases z) nt
  t := fun a h => s'.t a (s.t a h)
  n := fun a h => by
    rcases s'.n a h with z | z | z
    · exact s.n a z
    · exact .inr (s.f a z)
    · exact .inr (.inr (free_back s z))
  f := fun a h => by
    rcases s'.f a h with z | z
    · exact s.f a z
    · exact .inr (free_back s z)
  le := s'.le
  b := s'.b
theorem Step.wide (s : Step W G H F G' H' F') {F1 F1' : Fp} (h1 : ∀ a, F a → F1 a) (h2 : ∀ a, F1' a → F1 a ∨ F' a) : Step W G H F1 G' H' F1' where
  g := s.g
  h := fun a o h nf nt => s.h a o h (fun q => nf (h1 a q)) nt
  t := s.t
  n := fun a h => by
    rcases s.n a h with z | z | z
    · exact .inl z
    · exact .inr (.inl (h1 a z))
    · exact .inr (.inr z)
  f := fun a h => by
    rcases h2 a h with z | z
    · exact .inl z
    · rcases s.f a z with y | y
      · exact .inl (h1 a y)
      · exact .inr y
  le := s.le
  b := s.b
theorem RpO.step {C : Wc} {d : O} {v : V} {F1 : Fp} (r : RpO C G H d v F1) (s : Step W G H F G' H' F') (hd : ∀ a, F1 a → ¬ F a) : RpO C G' H' d v F1 := by
  refine r.keep s.g fun a ha => ?_
  obtain ⟨g, o, h, nt⟩ := r.own a ha
  refine ⟨?_, by rw [s.h a o h (hd a ha) nt.nt, h]⟩
  cases q : G' a with
  | none => rfl
  | some u =>
    rcases s.n a (by rw [q]; simp) with z | z | z
    · exact absurd g z
    · exact absurd z (hd a ha)
    · rw [h] at z; cases z
theorem apart_after {C : Wc} {d : O} {v : V} {F1 : Fp} (r : RpO C G H d v F1) (s : Step W G H F G' H' F') (hd : ∀ a, F1 a → ¬ F a) : ∀ a, F1 a → ¬ F' a := fun a ha q => by
  obtain ⟨_, o, h, _⟩ := r.own a ha
  rcases s.f a q with z | z
  · exact hd a ha z
  · rw [h] at z; cases z
end

abbrev En := List (Option O)
structure Sim (W : Wd) (G : Hp) (env : En) (σ : St) (H : Hp) (Fs : Nat → Fp) : Prop where
  le : Sub G H
  len : env.length = σ.length
  rp : ∀ i d, env[i]? = some (some d) → ∃ v, σ[i]? = some (some v) ∧ RpO W.C G H d v (Fs i)
  dj : ∀ i j a, i ≠ j → Fs i a → ¬ Fs j a
  ow : ∀ i a, Fs i a → G a = none ∧ ∃ o, H a = some o ∧ NoTbl o
  tb : TabOk W G H
def All (Fs : Nat → Fp) : Fp := fun a => ∃ i, Fs i a
section
variable {W : Wd} {G G' H H' : Hp} {env : En} {σ : St} {Fs : Nat → Fp} {F F' : Fp}
theorem Sim.step (S : Sim W G env σ H Fs) (s : Step W G H F G' H' F') (hd : ∀ i a, Fs i a → ¬ F a) : Sim W G' env σ H' Fs where
  le := s.le
  len := S.len
  rp := fun i d e => let ⟨v, h1, h2⟩ := S.rp i d e; ⟨v, h1, h2.step s (hd i)⟩
  dj := S.dj
  ow := fun i a ha => by
    obtain ⟨g, o, h, nt⟩ := S.ow i a ha
    refine ⟨?_, o, s.h a o h (hd i a ha) nt.nt, nt⟩
    cases q : G' a with
    | none => rfl
    | some u =>
      rcases s.n a (by rw [q]; simp) with z | z | z
      · exact absurd g z
      · exact absurd z (hd i a ha)
      · rw [h] at z; cases z
  tb := s.b
theorem Sim.step0 (S : Sim W G env σ H Fs) (s : Step W G H Emp G' H' F') : Sim W G' env σ H' Fs := S.step s fun _ _ _ h => h
theorem Sim.refl (S : Sim W G env σ H Fs) : Step W G H F G H F := Step.refl S.le S.tb
end

inductive R (ε α : Type) where
  | ok (a : α) | exc (c : Nat) (e : ε) | stk
def R.bind {ε α β : Type} (r : R ε α) (f : α → R ε β) : R ε β :=
  match r with
  | .ok a => f a
  | .exc c e => .exc c e
  | .stk => .stk
@[simp] theorem bind_ok {ε α β : Type} (a : α) (f : α → R ε β) : (R.ok a : R ε α).bind f = f a := id rfl
@[simp] theorem bind_exc {ε α β : Type} (c : Nat) (e : ε) (f : α → R ε β) : (R.exc c e : R ε α).bind f = .exc c e := id rfl
@[simp] theorem bind_stk {ε α β : Type} (f : α → R ε β) : (R.stk : R ε α).bind f = .stk := id rfl
def ofO {ε α : Type} : Option α → R ε α
  | some a => .ok a
  | none => .stk
@[simp] theorem ofO_some {ε α : Type} (a : α) : (ofO (some a) : R ε α) = .ok a := id rfl
@[simp] theorem ofO_none {ε α : Type} : (ofO none : R ε α) = .stk := id rfl
abbrev RP := R Unit O
abbrev RB := R Unit Bool
abbrev RE := R En (O × En)

end
end FD


set_option Elab.async false
set_option linter.all false
set_option maxRecDepth 100000
namespace FD
noncomputable section
open PySem L2

section
variable (W : Wd) (Wx : WX)
def tP (env : En) (r : RP) : TE := fun σ H Q => ∃ G Fs, Sim W G env σ H Fs ∧ match r with
  | .ok d => ∀ v G' H' F1, Step W G H Emp G' H' Emp → RpO W.C G' H' d v F1 → Q v H'
  | .exc c _ => ∀ G' H', Step W G H Emp G' H' Emp → Wx (.ref (W.C.cls c)) none σ H'
  | .stk => False
def tV (env : En) (r : RP) : TE := fun σ H Q => ∃ G Fs, Sim W G env σ H Fs ∧ match r with
  | .ok d => ∀ v G' H' F1, Step W G H Emp G' H' F1 → RpO W.C G' H' d v F1 → Q v H'
  | .exc c _ => ∀ G' H', Step W G H Emp G' H' Emp → Wx (.ref (W.C.cls c)) none σ H'
  | .stk => False
def tT (env : En) (r : RB) : TT := fun σ H Q => ∃ G Fs, Sim W G env σ H Fs ∧ match r with
  | .ok b => ∀ G' H', Step W G H Emp G' H' Emp → Q b H'
  | .exc c _ => ∀ G' H', Step W G H Emp G' H' Emp → Wx (.ref (W.C.cls c)) none σ H'
  | .stk => False
def tE (env : En) (r : RE) : TE := fun σ H Q => ∃ G Fs, Sim W G env σ H Fs ∧ match r with
  | .ok (d, env') => ∀ v G' H' F1 Fs', Step W G H (All Fs) G' H' (fun a => F1 a ∨ All Fs' a) → RpO W.C G' H' d v F1 → Sim W G' env' σ H' Fs' → (∀ i a, F1 a → ¬ Fs' i a) → Q v H'
  | .exc c env' => ∀ G' H' Fs', Step W G H (All Fs) G' H' (All Fs') → Sim W G' env' σ H' Fs' → Wx (.ref (W.C.cls c)) none σ H'
  | .stk => False
def tU (env : En) (r : R En (Bool × En)) : TT := fun σ H Q => ∃ G Fs, Sim W G env σ H Fs ∧ match r with
  | .ok (b, env') => ∀ G' H' Fs', Step W G H (All Fs) G' H' (All Fs') → Sim W G' env' σ H' Fs' → Q b H'
  | .exc c env' => ∀ G' H' Fs', Step W G H (All Fs) G' H' (All Fs') → Sim W G' env' σ H' Fs' → Wx (.ref (W.C.cls c)) none σ H'
  | .stk => False
def RpL (G H : Hp) (ds : List O) (vs : List V) : Prop := Paired (fun d v => ∃ F, RpO W.C G H d v F) ds vs
def tA (env : En) (r : R Unit (List O)) : TA := fun σ H Q => ∃ G Fs, Sim W G env σ H Fs ∧ match r with
  | .ok ds => ∀ vs G' H', Step W G H Emp G' H' Emp → RpL W G' H' ds vs → Q vs H'
  | .exc c _ => ∀ G' H', Step W G H Emp G' H' Emp → Wx (.ref (W.C.cls c)) none σ H'
  | .stk => False
end

def SP (X : Cx) (W : Wd) (Wx : WX) (f : En → RP) (e : Expr) : Prop := ∀ env, PE X e (tP W Wx env (f env))
def SV (X : Cx) (W : Wd) (Wx : WX) (f : En → RP) (e : Expr) : Prop := ∀ env, PE X e (tV W Wx env (f env))
def ST (X : Cx) (W : Wd) (Wx : WX) (f : En → RB) (e : Expr) : Prop := ∀ env, PT X e (tT W Wx env (f env))
def SE (X : Cx) (W : Wd) (Wx : WX) (f : En → RE) (e : Expr) : Prop := ∀ env, PE X e (tE W Wx env (f env))
def SU (X : Cx) (W : Wd) (Wx : WX) (f : En → R En (Bool × En)) (e : Expr) : Prop := ∀ env, PT X e (tU W Wx env (f env))
def SA (X : Cx) (W : Wd) (Wx : WX) (f : En → R Unit (List O)) (es : List Expr) : Prop := ∀ env, PA X es (tA W Wx env (f env))

theorem _root_.L2.PE.imp {X : Cx} {e : Expr} {t t' : TE} (h : PE X e t) (hi : ∀ σ H Q, t' σ H Q → t σ H Q) : PE X e t' := ⟨fun pins s σ H Q I q => h.run pins s σ H Q I (hi σ H Q q)⟩
theorem _root_.L2.PT.imp {X : Cx} {e : Expr} {t t' : TT} (h : PT X e t) (hi : ∀ σ H Q, t' σ H Q → t σ H Q) : PT X e t' := ⟨fun pins s σ H Q I q => h.run pins s σ H Q I (hi σ H Q q)⟩
theorem _root_.L2.PA.imp {X : Cx} {e : List Expr} {t t' : TA} (h : PA X e t) (hi : ∀ σ H Q, t' σ H Q → t σ H Q) : PA X e t' := ⟨fun pos pins s σ H Q I q => h.run pos pins s σ H Q I (hi σ H Q q)⟩
theorem _root_.L2.PS.imp {X : Cx} {e : Stmt} {t t' : TS} (h : PS X e t) (hi : ∀ D σ H, t' D σ H → t D σ H) : PS X e t' := ⟨fun pins s σ H D I q => h.run pins s σ H D I (hi D σ H q)⟩
theorem _root_.L2.PSs.imp {X : Cx} {e : List Stmt} {t t' : TS} (h : PSs X e t) (hi : ∀ D σ H, t' D σ H → t D σ H) : PSs X e t' := ⟨fun pins s σ H D I q => h.run pins s σ H D I (hi D σ H q)⟩

section
variable {X : Cx} {W : Wd} {Wx : WX} {G G' H H' : Hp} {env : En} {σ : St} {Fs : Nat → Fp} {F F' : Fp}
theorem Step.emp (s : Step W G H Emp G' H' F') : Step W G H Emp G' H' Emp := s.wide (fun _ h => h) fun _ h => .inl h
theorem RpO.step0 {d : O} {v : V} {F1 : Fp} (r : RpO W.C G H d v F1) (s : Step W G H Emp G' H' F') : RpO W.C G' H' d v F1 := r.step s fun _ _ h => h

def pE (f : En → RP) : En → RE := fun env => match f env with
  | .ok d => .ok (d, env)
  | .exc c _ => .exc c env
  | .stk => .stk
theorem SV.sp {f : En → RP} {e : Expr} (h : SV X W Wx f e) : SP X W Wx f e := fun env => (h env).imp fun σ H Q => by
  rintro ⟨G, Fs, S, q⟩
  refine ⟨G, Fs, S, ?_⟩
  cases e1 : f env with
  | ok d => rw [e1] at q; exact fun v G' H' F1 s r => q v G' H' F1 s.emp r
  | exc c u => rw [e1] at q; exact q
  | stk => rw [e1] at q; exact q
theorem tV_tE {f : En → RP} {Q : VK} : tE W Wx env (pE f env) σ H Q → tV W Wx env (f env) σ H Q := by
  rintro ⟨G, Fs, S, q⟩
  refine ⟨G, Fs, S, ?_⟩
  unfold pE at q
  cases e1 : f env with
  | ok d =>
    rw [e1] at q
    intro v G' H' F1 s r
    refine q v G' H' F1 Fs (s.wide (fun _ h => h.elim) fun a h => ?_) r (S.step0 s) fun i a h1 h2 => ?_
    · rcases h with h | h
      · exact .inr h
      · exact .inl h
    · obtain ⟨_, o, hh, _⟩ := S.ow i a h2
      rcases s.f a h1 with z | z
      · exact z
      · rw [hh] at z; cases z
  | exc c u =>
    rw [e1] at q
    exact fun G' H' s => q G' H' Fs (s.wide (fun _ h => h.elim) fun a h => .inl h) (S.step0 s)
  | stk => rw [e1] at q; exact q
def bFrz (f : En → RP) : En → RP := fun env => (f env).bind fun d => .ok (.sh d.frz)
noncomputable def addG (G H : Hp) (F : Fp) : Hp := fun a => open Classical in if F a then H a else G a
theorem addG_tab {F1 : Fp} (b : TabOk W G H) (h : ∀ a, F1 a → ∃ o, H a = some o ∧ NoTbl o) : TabOk W (addG G H F1) H := b.other fun a ha => by
  unfold addG at ha
  split at ha
  · rename_i hf
    exact .inr (h a hf)
  · exact .inl ha
theorem addG_step {d : O} {v : V} {F1 : Fp} (s : Step W G H F G' H' (fun a => F1 a ∨ F' a)) (r : RpO W.C G' H' d v F1) : Step W G H F (addG G' H' F1) H' F' ∧ Sub G' (addG G' H' F1) ∧ RpD W.C (addG G' H' F1) d.frz v := by
  have hs : Sub G' (addG G' H' F1) := fun a o h => by
    unfold addG
    split
    · exact s.le a o h
    · exact h
  refine ⟨⟨fun a o h => hs a o (s.g a o h), s.h, s.t, fun a h => ?_, fun a h => s.f a (.inr h), fun a o h => ?_, addG_tab s.b fun a h => (r.own a h).2⟩, hs, r.froz hs fun a ha => by unfold addG; rw [if_pos ha]⟩
  · unfold addG at h
    split at h
    · rename_i hf
      rcases s.f a (.inl hf) with z | z
      · exact .inr (.inl z)
      · exact .inr (.inr z)
    · exact s.n a h
  · unfold addG at h
    split at h
    · exact h
    · exact s.le a o h
theorem Sim.addG {F1 : Fp} (S : Sim W G env σ H Fs) (hd : ∀ i a, F1 a → ¬ Fs i a) (hn : ∀ a, F1 a → ∃ o, H a = some o ∧ NoTbl o) : Sim W (addG G H F1) env σ H Fs where
  le := fun a o h => by
    unfold FD.addG at h
    split at h
    · exact h
    · exact S.le a o h
  len := S.len
  rp := fun i d e => by
    obtain ⟨v, h1, h2⟩ := S.rp i d e
    refine ⟨v, h1, h2.keep (fun a o h => ?_) fun a ha => ⟨?_, rfl⟩⟩
    · unfold FD.addG
      split
      · exact S.le a o h
      · exact h
    · unfold FD.addG
      rw [if_neg fun q => hd i a q ha]
      exact (S.ow i a ha).1
  dj := S.dj
  ow := fun i a ha => by
    obtain ⟨g, r⟩ := S.ow i a ha
    refine ⟨?_, r⟩
    unfold FD.addG
    rw [if_neg fun q => hd i a q ha]
    exact g
  tb := addG_tab S.tb hn
theorem SV.se {f : En → RP} {e : Expr} (h : SV X W Wx f e) : SE X W Wx (pE f) e := fun env => (h env).imp fun σ H Q => tV_tE
theorem tV_frz {f : En → RP} {Q : VK} : tV W Wx env (bFrz f env) σ H Q → tV W Wx env (f env) σ H Q := by
  rintro ⟨G, Fs, S, q⟩
  refine ⟨G, Fs, S, ?_⟩
  unfold bFrz at q
  cases e1 : f env with
  | ok d =>
    rw [e1] at q
    intro v G' H' F1 s r
    obtain ⟨s', _, r'⟩ := addG_step (F' := Emp) (s.wide (fun _ h => h) fun a h => by
      rcases h with h | h
      · exact .inr h
      · exact .inl h) r
    exact q v _ H' Emp s' (.sh r' fun _ h => h)
  | exc c u => rw [e1] at q; exact q
  | stk => rw [e1] at q; exact q
theorem SV.frz {f : En → RP} {e : Expr} (h : SV X W Wx f e) : SV X W Wx (bFrz f) e := fun env => (h env).imp fun σ H Q => tV_frz
def eFrz (f : En → RE) : En → RE := fun env => (f env).bind fun p => .ok (.sh p.1.frz, p.2)
theorem tE_frz {f : En → RE} {Q : VK} : tE W Wx env (eFrz f env) σ H Q → tE W Wx env (f env) σ H Q := by
  rintro ⟨G, Fs, S, q⟩
  refine ⟨G, Fs, S, ?_⟩
  unfold eFrz at q
  cases e1 : f env with
  | ok p =>
    obtain ⟨d, env'⟩ := p
    rw [e1] at q
    intro v G' H' F1 Fs' s r S' dj
    have ho := fun a h => (r.own a h).2
    obtain ⟨s', _, r'⟩ := addG_step s r
    exact q v _ H' Emp Fs' (s'.wide (fun _ h => h) fun a h => by
      rcases h with h | h
      · exact h.elim
      · exact .inr h) (.sh r' fun _ h => h) (S'.addG dj ho) fun _ _ h => h.elim
  | exc c u => rw [e1] at q; exact q
  | stk => rw [e1] at q; exact q

theorem SE.frz {f : En → RE} {e : Expr} (h : SE X W Wx f e) : SE X W Wx (eFrz f) e := fun env => (h env).imp fun σ H Q => tE_frz
def gt (env : En) (i : Nat) : Option O := match env[i]? with
  | some x => x
  | none => none
theorem gt_some {env : En} {i : Nat} {d : O} (h : gt env i = some d) : env[i]? = some (some d) := by
  unfold gt at h
  split at h
  · rename_i x e; rw [e, h]
  · cases h
def asSh : O → Option O
  | .sh d => some (.sh d)
  | _ => none
def bVar (i : Nat) : En → RP := fun env => ofO (gt env i)
def bSh (i : Nat) : En → RP := fun env => ofO ((gt env i).bind asSh)
theorem SP_var (i : Nat) {x : Str} {pos : Pos} (hN : X.N[i]? = some x := by rfl) (hv : Vis X.env.scope x := by first | exact Or.inl rfl | exact Or.inr (Or.inl rfl) | exact Or.inr (Or.inr rfl)) (hd : (x == ("__debug__" : Str)) = false := by decide)
    (hcd : (x == ("__classdict__" : Str)) = false := by decide) : SP X W Wx (bVar i) (.Name x pos) := fun env => (pe_var hN hv hd hcd).imp fun σ H Q => by
  rintro ⟨G, Fs, S, q⟩
  unfold bVar at q
  cases e : gt env i with
  | none => rw [e] at q; exact q.elim
  | some d =>
    rw [e] at q
    obtain ⟨v, h1, h2⟩ := S.rp i d (gt_some e)
    exact ⟨v, h1, q v G H (Fs i) S.refl h2⟩
theorem SV_sh (i : Nat) {x : Str} {pos : Pos} (hN : X.N[i]? = some x := by rfl) (hv : Vis X.env.scope x := by first | exact Or.inl rfl | exact Or.inr (Or.inl rfl) | exact Or.inr (Or.inr rfl)) (hd : (x == ("__debug__" : Str)) = false := by decide)
    (hcd : (x == ("__classdict__" : Str)) = false := by decide) : SV X W Wx (bSh i) (.Name x pos) := fun env => (pe_var hN hv hd hcd).imp fun σ H Q => by
  rintro ⟨G, Fs, S, q⟩
  unfold bSh at q
  cases e : gt env i with
  | none => rw [e] at q; exact q.elim
  | some d =>
    rw [e] at q
    cases d with
    | sh d =>
      obtain ⟨v, h1, h2⟩ := S.rp i _ (gt_some e)
      cases h2 with
      | sh r n => exact ⟨v, h1, q v G H Emp S.refl (.sh r fun _ h => h)⟩
    | _ => exact q.elim
def bC (d : D) : En → RP := fun _ => .ok (.sh d)
theorem SV_const {d : D} {v : V} {e : Expr} (h : PE X e (tC v)) (r : ∀ G, RpD W.C G d v) : SV X W Wx (bC d) e := fun env => h.imp fun σ H Q => by
  rintro ⟨G, Fs, S, q⟩
  exact q v G H Emp S.refl (.sh (r G) fun _ h => h)
theorem SV_int {i : Int} {j : Nat} {pos : Pos} : SV X W Wx (bC (.int i)) (.Constant (.int i) j pos) := SV_const pe_int fun _ => .int i
theorem SV_bl {i : Bool} {j : Nat} {pos : Pos} : SV X W Wx (bC (.bl i)) (.Constant (.bool i) j pos) := SV_const pe_bl fun _ => .bl i
theorem SV_non {j : Nat} {pos : Pos} : SV X W Wx (bC .non) (.Constant .none j pos) := SV_const pe_non fun _ => .non
def Op2 (W : Wd) (r : R2) (go : O → O → Option O) : Prop := ∀ (G H : Hp) (x y z : O) (v u : V) (F1 F2 : Fp) (Q : VK), Sub G H → TabOk W G H → RpO W.C G H x v F1 → RpO W.C G H y u F2 → go x y = some z →
  (∀ w G' H' F', Step W G H Emp G' H' F' → RpO W.C G' H' z w F' → Q w H') → r v u H Q
def OpN (W : Wd) (r : List V → Hp → VK → Prop) (go : List O → Option O) : Prop := ∀ (G H : Hp) (xs : List O) (z : O) (vs : List V) (Q : VK), Sub G H → TabOk W G H → RpL W G H xs vs → go xs = some z →
  (∀ w G' H' F', Step W G H Emp G' H' F' → RpO W.C G' H' z w F' → Q w H') → r vs H Q
def b2 (go : O → O → Option O) (f g : En → RP) : En → RP := fun env => (f env).bind fun x => (g env).bind fun y => ofO (go x y)
def b1 (go : O → Option O) (f : En → RP) : En → RP := fun env => (f env).bind fun x => ofO (go x)
def bN (go : List O → Option O) (f : En → R Unit (List O)) : En → RP := fun env => (f env).bind fun xs => ofO (go xs)
theorem op2_core {ta tb : TE} {r : R2} {go : O → O → Option O} {f g : En → RP} (ho : Op2 W r go) {Q : VK} (ha : ∀ Q', tP W Wx env (f env) σ H Q' → ta σ H Q') (hb : ∀ H' Q', tP W Wx env (g env) σ H' Q' → tb σ H' Q')
    (q : tV W Wx env (b2 go f g env) σ H Q) : ta σ H fun x H1 => tb σ H1 fun y H2 => r x y H2 Q := by
  obtain ⟨G, Fs, S, q⟩ := q
  refine ha _ ⟨G, Fs, S, ?_⟩
  unfold b2 at q
  cases e1 : f env with
  | stk => rw [e1] at q; exact q
  | exc c u => rw [e1] at q; exact q
  | ok x =>
    rw [e1, bind_ok] at q
    intro v G1 H1 F1 s1 r1
    have S1 := S.step0 s1
    refine hb _ _ ⟨G1, Fs, S1, ?_⟩
    cases e2 : g env with
    | stk => rw [e2] at q; exact q
    | exc c u => rw [e2] at q; exact fun G' H' s => q G' H' (s1.trans s)
    | ok y =>
      rw [e2, bind_ok] at q
      intro u G2 H2 F2 s2 r2
      cases e3 : go x y with
      | none => rw [e3] at q; exact q.elim
      | some z =>
        rw [e3] at q
        exact ho G2 H2 x y z v u F1 F2 Q s2.le s2.b (r1.step0 s2) r2 e3 fun w G' H' F' s r => q w G' H' F' ((s1.trans s2).trans s) r
theorem SV_op {op : Operator} {r : R2} {go : O → O → Option O} {f g : En → RP} {a b : Expr} {pos : Pos} (hr : OpR X (binaryOp op) r) (ho : Op2 W r go) (ha : SP X W Wx f a) (hb : SP X W Wx g b) : SV X W Wx (b2 go f g) (.BinOp a op b pos) :=
  fun env => (pe_op hr (ha env) (hb env)).imp fun σ H Q q => op2_core ho (fun _ h => h) (fun _ _ h => h) q
theorem SV_cmp {op : CmpOp} {r : R2} {go : O → O → Option O} {f g : En → RP} {a b : Expr} {pos : Pos} (hr : OpR X (compareOp op) r) (ho : Op2 W r go) (ha : SP X W Wx f a) (hb : SP X W Wx g b) (hm : behindInMarks op b = false) : SV X W Wx (b2 go f g) (.Compare a [op] [b] pos) :=
  fun env => (pe_cmpR hr (ha env) (hb env) hm).imp fun σ H Q q => op2_core ho (fun _ h => h) (fun _ _ h => h) q
theorem SV_ix {r : R2} {go : O → O → Option O} {f g : En → RP} {a b : Expr} {pos : Pos} (hr : IxR X r) (ho : Op2 W r go) (ha : SP X W Wx f a) (hb : SP X W Wx g b) (hs : PlainIx b) : SV X W Wx (b2 go f g) (.Subscript a b pos) :=
  fun env => (pe_ix hr (ha env) (hb env) hs).imp fun σ H Q q => op2_core ho (fun _ h => h) (fun _ _ h => h) q
def aNil : En → R Unit (List O) := fun _ => .ok []
def aCons (f : En → RP) (g : En → R Unit (List O)) : En → R Unit (List O) := fun env => (f env).bind fun x => (g env).bind fun xs => .ok (x :: xs)
theorem SA_nil : SA X W Wx aNil [] := fun env => pa_nil.imp fun σ H Q => by
  rintro ⟨G, Fs, S, q⟩
  exact q [] G H S.refl .nil
theorem RpL.step0 {xs : List O} {vs : List V} (r : RpL W G H xs vs) (s : Step W G H Emp G' H' F') : RpL W G' H' xs vs := Paired.mapP r fun _ _ ⟨F, h⟩ => ⟨F, h.step0 s⟩
theorem SA_cons {f : En → RP} {g : En → R Unit (List O)} {e : Expr} {es : List Expr} (ha : SP X W Wx f e) (hr : SA X W Wx g es) (hs : starEach (e :: es) X.env = (false, eval e X.env) :: starEach es X.env := by rfl) : SA X W Wx (aCons f g) (e :: es) :=
  fun env => (pa_cons (ha env) (hr env) hs).imp fun σ H Q => by
    rintro ⟨G, Fs, S, q⟩
    refine ⟨G, Fs, S, ?_⟩
    unfold aCons at q
    cases e1 : f env with
    | stk => rw [e1] at q; exact q
    | exc c u => rw [e1] at q; exact q
    | ok x =>
      rw [e1, bind_ok] at q
      intro v G1 H1 F1 s1 r1
      refine ⟨G1, Fs, S.step0 s1, ?_⟩
      cases e2 : g env with
      | stk => rw [e2] at q; exact q
      | exc c u => rw [e2] at q; exact fun G' H' s => q G' H' (s1.trans s)
      | ok ys =>
        rw [e2, bind_ok] at q
        intro vs G2 H2 s2 r2
        exact q _ _ _ (s1.trans s2) (.cons ⟨F1, r1.step0 s2⟩ r2)
theorem callN_core {ta : TA} {r : List V → Hp → VK → Prop} {go : List O → Option O} {f : En → R Unit (List O)} {Q : VK} (ho : OpN W r go) (ha : ∀ Q', tA W Wx env (f env) σ H Q' → ta σ H Q') (q : tV W Wx env (bN go f env) σ H Q) : ta σ H fun vs H1 => r vs H1 Q := by
  obtain ⟨G, Fs, S, q⟩ := q
  refine ha _ ⟨G, Fs, S, ?_⟩
  unfold bN at q
  cases e1 : f env with
  | stk => rw [e1] at q; exact q
  | exc c u => rw [e1] at q; exact q
  | ok xs =>
    rw [e1, bind_ok] at q
    intro vs G1 H1 s1 r1
    cases e3 : go xs with
    | none => rw [e3] at q; exact q.elim
    | some z =>
      rw [e3] at q
      exact ho G1 H1 xs z vs Q s1.le s1.b r1 e3 fun w G' H' F' s r => q w G' H' F' (s1.trans s) r
theorem SV_callB {id : String} {x : Str} {p pos : Pos} {e : Expr} {es : List Expr} {r : List V → Hp → VK → Prop} {go : List O → Option O} {f : En → R Unit (List O)} (hc : CallR X (.builtin id) r) (ho : OpN W r go) (hg : Gl X x) (hm : X.mg x = none) (hv : bootBuiltins x = some (.builtin id)) (ha : SA X W Wx f (e :: es))
    (hn : x ≠ "__name__" := by decide) (hdb : (x == ("__debug__" : Str)) = false := by decide) (he : starEach (e :: es) X.env = (false, eval e X.env) :: starEach es X.env := by rfl) (hpl : (backTo pos (starEach es X.env)).any (·.1) = false := by rfl) :
    SV X W Wx (bN go f) (.Call (.Name x p) (e :: es) [] pos) := fun env => (pe_callB hc hg hm hv (ha env) hn hdb he hpl).imp fun σ H Q q => callN_core ho (fun _ h => h) q
theorem SV_callTy {T : String} {x : Str} {p pos : Pos} {e : Expr} {es : List Expr} {r : List V → Hp → VK → Prop} {go : List O → Option O} {f : En → R Unit (List O)} (hc : CallR X (.type T) r) (ho : OpN W r go) (hg : Gl X x) (hm : X.mg x = none) (hv : bootBuiltins x = some (.type T)) (ha : SA X W Wx f (e :: es))
    (hn : x ≠ "__name__" := by decide) (hdb : (x == ("__debug__" : Str)) = false := by decide) (he : starEach (e :: es) X.env = (false, eval e X.env) :: starEach es X.env := by rfl) (hpl : (backTo pos (starEach es X.env)).any (·.1) = false := by rfl) :
    SV X W Wx (bN go f) (.Call (.Name x p) (e :: es) [] pos) := fun env => (pe_callTy hc hg hm hv (ha env) hn hdb he hpl).imp fun σ H Q q => callN_core ho (fun _ h => h) q

def asB : O → Option Bool
  | .sh (.bl b) => some b
  | _ => none
def bT (f : En → RP) : En → RB := fun env => (f env).bind fun d => ofO (asB d)
theorem tT_of {t : TE} {f : En → RP} {Q : Bool → Hp → Prop} (h : ∀ Q', tP W Wx env (f env) σ H Q' → t σ H Q') (q : tT W Wx env (bT f env) σ H Q) : tB t σ H Q := by
  obtain ⟨G, Fs, S, q⟩ := q
  refine h _ ⟨G, Fs, S, ?_⟩
  unfold bT at q
  cases e1 : f env with
  | stk => rw [e1] at q; exact q
  | exc c u => rw [e1] at q; exact q
  | ok x =>
    rw [e1, bind_ok] at q
    intro v G1 H1 F1 s1 r1
    cases x with
    | sh d =>
      cases d with
      | bl b =>
        cases r1 with
        | sh r n => cases r; exact ⟨b, rfl, q G1 H1 s1⟩
      | _ => exact q.elim
    | _ => exact q.elim
theorem ST_val {f : En → RP} {e : Expr} (h : SP X W Wx f e) (he : ∀ whole, isTrue e X.env whole = (do let v ← whole; standAt e.pos; holding [v] (truthy v)) := by intro _; rfl) : ST X W Wx (bT f) e :=
  fun env => (pt_val (h env) he).imp fun σ H Q q => tT_of (fun _ h => h) q
theorem ST_cmp {op : CmpOp} {r : R2} {go : O → O → Option O} {f g : En → RP} {a b : Expr} {pos : Pos} (hr : OpR X (compareOp op) r) (ho : Op2 W r go) (ha : SP X W Wx f a) (hb : SP X W Wx g b) (hm : behindInMarks op b = false) : ST X W Wx (bT (b2 go f g)) (.Compare a [op] [b] pos) :=
  fun env => (pt_cmpR hr (ha env) (hb env) hm).imp fun σ H Q q => by
    show tOp r (tP W Wx env (f env)) (tP W Wx env (g env)) σ H fun x H' => ∃ k, x = .bl k ∧ Q k H'
    refine op2_core ho (fun _ h => h) (fun _ _ h => h) ?_
    obtain ⟨G, Fs, S, q⟩ := q
    refine ⟨G, Fs, S, ?_⟩
    unfold bT at q
    cases e1 : b2 go f g env with
    | stk => rw [e1] at q; exact q
    | exc c u => rw [e1] at q; exact q
    | ok x =>
      rw [e1, bind_ok] at q
      intro v G1 H1 F1 s1 r1
      cases x with
      | sh d =>
        cases d with
        | bl b =>
          cases r1 with
          | sh r n => cases r; exact ⟨b, rfl, q G1 H1 s1.emp⟩
        | _ => exact q.elim
      | _ => exact q.elim
def bNot (f : En → RB) : En → RB := fun env => (f env).bind fun b => .ok (!b)
def STw (X : Cx) (W : Wd) (Wx : WX) (f : En → RB) (e : Expr) : Prop := ∀ env, PW X e (tT W Wx env (f env))
def bAnd (f g : En → RB) : En → RB := fun env => (f env).bind fun b => if b then g env else .ok false
def bOr (f g : En → RB) : En → RB := fun env => (f env).bind fun b => if b then .ok true else g env
theorem _root_.L2.PW.imp {X : Cx} {e : Expr} {t t' : TT} (h : PW X e t) (hi : ∀ σ H Q, t' σ H Q → t σ H Q) : PW X e t' := ⟨fun wh pins s σ H Q I q => h.run wh pins s σ H Q I (hi σ H Q q)⟩
theorem STw.st {f : En → RB} {e : Expr} (h : STw X W Wx f e) : ST X W Wx f e := fun env => (h env).pt
theorem STw_and1 {f : En → RB} {a : Expr} {pos : Pos} (h : ST X W Wx f a) : STw X W Wx f (.BoolOp .And [a] pos) := fun env => pw_and1 (h env)
theorem STw_or1 {f : En → RB} {a : Expr} {pos : Pos} (h : ST X W Wx f a) : STw X W Wx f (.BoolOp .Or [a] pos) := fun env => pw_or1 (h env)
theorem and_core {ta tb : TT} {f g : En → RB} {Q : Bool → Hp → Prop} (ha : ∀ Q', tT W Wx env (f env) σ H Q' → ta σ H Q') (hb : ∀ H' Q', tT W Wx env (g env) σ H' Q' → tb σ H' Q') (q : tT W Wx env (bAnd f g env) σ H Q) :
    ta σ H fun c H1 => if c = true then tb σ H1 Q else Q false H1 := by
  obtain ⟨G, Fs, S, q⟩ := q
  refine ha _ ⟨G, Fs, S, ?_⟩
  unfold bAnd at q
  cases e1 : f env with
  | stk => rw [e1] at q; exact q
  | exc c u => rw [e1] at q; exact q
  | ok b =>
    rw [e1, bind_ok] at q
    intro G1 H1 s1
    cases b with
    | false => rw [if_neg (by decide)] at q ⊢; exact q G1 H1 s1
    | true =>
      rw [if_pos rfl] at q ⊢
      refine hb _ _ ⟨G1, Fs, S.step0 s1, ?_⟩
      cases e2 : g env with
      | stk => rw [e2] at q; exact q
      | exc c u => rw [e2] at q; exact fun G' H' s => q G' H' (s1.trans s)
      | ok b => rw [e2] at q; exact fun G' H' s => q G' H' (s1.trans s)
theorem or_core {ta tb : TT} {f g : En → RB} {Q : Bool → Hp → Prop} (ha : ∀ Q', tT W Wx env (f env) σ H Q' → ta σ H Q') (hb : ∀ H' Q', tT W Wx env (g env) σ H' Q' → tb σ H' Q') (q : tT W Wx env (bOr f g env) σ H Q) :
    ta σ H fun c H1 => if c = true then Q true H1 else tb σ H1 Q := by
  obtain ⟨G, Fs, S, q⟩ := q
  refine ha _ ⟨G, Fs, S, ?_⟩
  unfold bOr at q
  cases e1 : f env with
  | stk => rw [e1] at q; exact q
  | exc c u => rw [e1] at q; exact q
  | ok b =>
    rw [e1, bind_ok] at q
    intro G1 H1 s1
    cases b with
    | true => rw [if_pos rfl] at q ⊢; exact q G1 H1 s1
    | false =>
      rw [if_neg (by decide)] at q ⊢
      refine hb _ _ ⟨G1, Fs, S.step0 s1, ?_⟩
      cases e2 : g env with
      | stk => rw [e2] at q; exact q
      | exc c u => rw [e2] at q; exact fun G' H' s => q G' H' (s1.trans s)
      | ok b => rw [e2] at q; exact fun G' H' s => q G' H' (s1.trans s)
theorem STw_and {f g : En → RB} {a b : Expr} {rest : List Expr} {pos : Pos} (ha : ST X W Wx f a) (hb : STw X W Wx g (.BoolOp .And (b :: rest) pos)) : STw X W Wx (bAnd f g) (.BoolOp .And (a :: b :: rest) pos) :=
  fun env => (pw_and (ha env) (hb env)).imp fun σ H Q q => and_core (fun _ h => h) (fun _ _ h => h) q
theorem STw_or {f g : En → RB} {a b : Expr} {rest : List Expr} {pos : Pos} (ha : ST X W Wx f a) (hb : STw X W Wx g (.BoolOp .Or (b :: rest) pos)) : STw X W Wx (bOr f g) (.BoolOp .Or (a :: b :: rest) pos) :=
  fun env => (pw_or (ha env) (hb env)).imp fun σ H Q q => or_core (fun _ h => h) (fun _ _ h => h) q
def bOfT (f : En → RB) : En → RP := fun env => (f env).bind fun b => .ok (.sh (.bl b))
def bAndV (f g : En → RP) : En → RP := fun env => (f env).bind fun x => (ofO (asB x) : RB).bind fun b => if b then g env else .ok (.sh (.bl false))
def bOrV (f g : En → RP) : En → RP := fun env => (f env).bind fun x => (ofO (asB x) : RB).bind fun b => if b then .ok (.sh (.bl true)) else g env
theorem rp_bl {d : O} {v : V} {F1 : Fp} {b : Bool} (r : RpO W.C G H d v F1) (e : asB d = some b) : d = .sh (.bl b) ∧ v = .bl b := by
  cases d with
  | sh d =>
    cases d with
    | bl c =>
      cases e
      cases r with
      | sh r n => cases r; exact ⟨rfl, rfl⟩
    | _ => cases e
  | _ => cases e
def bIf (c : En → RB) (f g : En → RP) : En → RP := fun env => (c env).bind fun b => if b then f env else g env
end
end
end FD


set_option Elab.async false
set_option linter.all false
set_option maxRecDepth 100000
namespace FD
noncomputable section
open PySem L2

section
variable {W : Wd} {Wx : WX} {G G' H H' : Hp} {F F' : Fp}

theorem sub_upd {p : Addr} {o : HO} (hp : H p = none) : Sub H (upd H p o) := fun a u h => by rw [upd_ne (ne_of_none h hp)]; exact h
theorem step_own (le : Sub G H) (b : TabOk W G H) {p : Addr} {o : HO} (hp : H p = none) : Step W G H Emp G (upd H p o) (fun a => a = p) where
  g := fun _ _ h => h
  h := fun a u h _ _ => sub_upd hp a u h
  t := fun a h => by
    by_cases e : a = p
    · rw [e, hp] at h; exact absurd rfl h
    · rw [upd_ne e]; exact h
  n := fun a h => .inl h
  f := fun a h => .inr (by rw [h]; exact hp)
  le := fun a u h => sub_upd hp a u (le a u h)
  b := b.own hp
theorem step_sh (le : Sub G H) (b : TabOk W G H) {p : Addr} {o : HO} (hp : H p = none) : Step W G H Emp (upd G p o) (upd H p o) Emp where
  g := sub_upd (by
    cases q : G p with
    | none => rfl
    | some u => rw [le p u q] at hp; cases hp)
  h := fun a u h _ _ => sub_upd hp a u h
  t := fun a h => by
    by_cases e : a = p
    · rw [e, hp] at h; exact absurd rfl h
    · rw [upd_ne e]; exact h
  n := fun a h => by
    by_cases e : a = p
    · rw [e]; exact .inr (.inr hp)
    · rw [upd_ne e] at h; exact .inl h
  f := fun a h => h.elim
  le := fun a u h => by
    by_cases e : a = p
    · rw [e, upd_same] at h ⊢; exact h
    · rw [upd_ne e] at h ⊢; exact le a u h
  b := b.sh hp
theorem none_of_le (le : Sub G H) {p : Addr} (hp : H p = none) : G p = none := by
  cases q : G p with
  | none => rfl
  | some u => rw [le p u q] at hp; cases hp

def RpDs (W : Wd) (G : Hp) (xs : List D) (vs : List V) : Prop := Paired (fun d v => RpD W.C G d v) xs vs
theorem paired_get' {α β : Type} {R : α → β → Prop} {l₁ : List α} {l₂ : List β} (h : Paired R l₁ l₂) : ∀ (i : Nat) (a : α) (b : β), l₁[i]? = some a → l₂[i]? = some b → R a b := fun i a b e1 e2 => by
  obtain ⟨b', e, r⟩ := paired_get h e1
  rw [e2] at e
  cases e
  exact r
theorem paired_of {α β : Type} {R : α → β → Prop} : ∀ {l₁ : List α} {l₂ : List β}, l₁.length = l₂.length → (∀ (i : Nat) (a : α) (b : β), l₁[i]? = some a → l₂[i]? = some b → R a b) → Paired R l₁ l₂
  | [], [], _, _ => .nil
  | [], _ :: _, h, _ => by simp at h
  | _ :: _, [], h, _ => by simp at h
  | a :: l₁, b :: l₂, h, r => .cons (r 0 a b rfl rfl) (paired_of (by simpa using h) fun i a b e1 e2 => r (i + 1) a b e1 e2)
theorem RpDs.sub {xs : List D} {vs : List V} (s : Sub G G') (h : RpDs W G xs vs) : RpDs W G' xs vs := Paired.mapP h fun _ _ r => r.sub s
theorem RpDs.tup {xs : List D} {vs : List V} {p : Addr} (r : G p = some (.tup vs)) (h : RpDs W G xs vs) : RpD W.C G (.tup false xs) (.ref p) := .tup (m := false) r h.length (paired_get' h)
theorem RpDs.lst {xs : List D} {vs : List V} {p : Addr} (r : G p = some (.lst vs)) (h : RpDs W G xs vs) : RpD W.C G (.lst xs) (.ref p) := .lst r h.length (paired_get' h)
theorem RpDs.own {xs : List D} {vs : List V} {p : Addr} (g : G p = none) (r : H p = some (.lst vs)) (h : RpDs W G xs vs) : RpO W.C G H (.lst (xs.map O.sh)) (.ref p) (fun a => a = p) :=
  .lst (fun _ => Emp) g r (by rw [List.length_map]; exact h.length) (fun i d v e1 e2 => by
    rw [List.getElem?_map] at e1
    cases q : xs[i]? with
    | none => rw [q] at e1; cases e1
    | some x =>
      rw [q] at e1
      cases e1
      exact .sh (paired_get' h i x v q e2) fun _ h => h) (fun _ _ _ _ h => h.elim) (fun _ _ h => h.elim) fun a => ⟨fun h => .inl h, fun h => h.elim id fun ⟨_, h⟩ => h.elim⟩
theorem RpO.sh' {d : D} {v : V} (h : RpD W.C G d v) : RpO W.C G H (.sh d) v Emp := .sh h fun _ h => h

def asI : O → Option Int
  | .sh (.int i) => some i
  | _ => none
def asD : O → Option D
  | .sh d => some d
  | _ => none
theorem asI_some {x : O} {i : Int} (h : asI x = some i) : x = .sh (.int i) := by
  unfold asI at h
  split at h
  · cases h; rfl
  · cases h
theorem asD_some {x : O} {i : D} (h : asD x = some i) : x = .sh i := by
  unfold asD at h
  split at h
  · cases h; rfl
  · cases h
theorem rp_int {i : Int} {v : V} {F : Fp} {C : Wc} (r : RpO C G H (.sh (.int i)) v F) : v = .int i := by cases r with | sh r _ => cases r; rfl
theorem rp_str {i : Str} {v : V} {F : Fp} {C : Wc} (r : RpO C G H (.sh (.str i)) v F) : v = .str i := by cases r with | sh r _ => cases r; rfl
theorem rp_sh {d : D} {v : V} {F : Fp} {C : Wc} (r : RpO C G H (.sh d) v F) : RpD C G d v := by cases r with | sh r _ => exact r

def oI (g : Int → Int → D) : O → O → Option O := fun x y => (asI x).bind fun i => (asI y).bind fun j => some (.sh (g i j))
def oIc (c : Int → Int → Bool) (g : Int → Int → D) : O → O → Option O := fun x y => (asI x).bind fun i => (asI y).bind fun j => if c i j then some (.sh (g i j)) else none
theorem op2_I {gd : Int → Int → D} {gv : Int → Int → V} (hg : ∀ i j G, RpD W.C G (gd i j) (gv i j)) : Op2 W (rI0 gv) (oI gd) := by
  intro G H x y z v u F1 F2 Q le b rx ry e q
  unfold oI at e
  cases e1 : asI x with
  | none => rw [e1] at e; cases e
  | some i =>
    rw [e1, Option.bind_some] at e
    cases e2 : asI y with
    | none => rw [e2] at e; cases e
    | some j =>
      rw [e2, Option.bind_some] at e
      cases e
      rw [asI_some e1] at rx
      rw [asI_some e2] at ry
      exact ⟨i, j, rp_int rx, rp_int ry, q _ G H Emp (Step.refl le b) (.sh' (hg i j G))⟩
theorem op2_Ic {c : Int → Int → Bool} {C : Int → Int → Prop} {gd : Int → Int → D} {gv : Int → Int → V} (hc : ∀ i j, c i j = true → C i j) (hg : ∀ i j G, RpD W.C G (gd i j) (gv i j)) : Op2 W (rI C gv) (oIc c gd) := by
  intro G H x y z v u F1 F2 Q le b rx ry e q
  unfold oIc at e
  cases e1 : asI x with
  | none => rw [e1] at e; cases e
  | some i =>
    rw [e1, Option.bind_some] at e
    cases e2 : asI y with
    | none => rw [e2] at e; cases e
    | some j =>
      rw [e2, Option.bind_some] at e
      split at e
      · rename_i hcc
        cases e
        rw [asI_some e1] at rx
        rw [asI_some e2] at ry
        exact ⟨i, j, rp_int rx, rp_int ry, hc i j hcc, q _ G H Emp (Step.refl le b) (.sh' (hg i j G))⟩
      · cases e
def oAdd := oI fun i j => .int (i + j)
def oSub := oI fun i j => .int (i - j)
def cMul (i j : Int) : Bool := okI i || okI j
def oMul := oIc cMul fun i j => .int (i * j)
def oDiv := oIc (fun i j => okJ j) fun i j => .int (i / j)
def oMod := oIc (fun _ j => decide (0 < j)) fun i j => .int (i % j)
def oPow := oIc (fun i j => decide (0 ≤ j) && decide (j ≤ 1000000) && decide (i.natAbs < 2 ^ 64)) fun i j => .int (i ^ j.toNat)
def oLt := oI fun i j => .bl (decide (i < j))
def oLe := oI fun i j => .bl (decide (i ≤ j))
def oGt := oI fun i j => .bl (decide (j < i))
def oGe := oI fun i j => .bl (decide (j ≤ i))
section
variable {X : Cx} {env : En} {f g : En → RP} {a b : Expr} {pos : Pos}
theorem v_sub : OpR X (binaryOp .Sub) (rI0 fun i j => .int (i - j)) ∧ Op2 W (rI0 fun i j => .int (i - j)) oSub := ⟨op_sub, op2_I fun _ _ _ => .int _⟩
theorem v_mul : OpR X (binaryOp .Mult) (rI CMul fun i j => .int (i * j)) ∧ Op2 W (rI CMul fun i j => .int (i * j)) oMul := ⟨op_mul, op2_Ic (fun i j h => by
  unfold cMul at h
  rw [Bool.or_eq_true] at h
  rcases h with h | h
  · obtain ⟨h1, h2⟩ := okI_ok h
    exact .inl ⟨by omega, by omega⟩
  · obtain ⟨h1, h2⟩ := okI_ok h
    exact .inr ⟨by omega, by omega⟩) fun _ _ _ => .int _⟩
theorem v_div : OpR X (binaryOp .FloorDiv) (rI CDiv fun i j => .int (i / j)) ∧ Op2 W (rI CDiv fun i j => .int (i / j)) oDiv := ⟨op_fdiv, op2_Ic (fun i j h => okJ_ok h) fun _ _ _ => .int _⟩
theorem v_mod : OpR X (binaryOp .Mod) (rI (fun _ j => 0 < j) fun i j => .int (i % j)) ∧ Op2 W (rI (fun _ j => 0 < j) fun i j => .int (i % j)) oMod := ⟨op_mod, op2_Ic (fun i j h => of_decide_eq_true h) fun _ _ _ => .int _⟩
theorem v_pow : OpR X (binaryOp .Pow) (rI CPow fun i j => .int (i ^ j.toNat)) ∧ Op2 W (rI CPow fun i j => .int (i ^ j.toNat)) oPow := ⟨op_pow, op2_Ic (fun i j h => by
  simp only [Bool.and_eq_true, decide_eq_true_eq] at h
  exact ⟨h.1.1, h.1.2, h.2⟩) fun _ _ _ => .int _⟩
theorem v_lt : OpR X (compareOp .Lt) (rI0 fun i j => .bl (decide (i < j))) ∧ Op2 W (rI0 fun i j => .bl (decide (i < j))) oLt := ⟨op_lt, op2_I fun _ _ _ => .bl _⟩
theorem v_le : OpR X (compareOp .LtE) (rI0 fun i j => .bl (decide (i ≤ j))) ∧ Op2 W (rI0 fun i j => .bl (decide (i ≤ j))) oLe := ⟨op_le, op2_I fun _ _ _ => .bl _⟩
theorem v_gt : OpR X (compareOp .Gt) (rI0 fun i j => .bl (decide (j < i))) ∧ Op2 W (rI0 fun i j => .bl (decide (j < i))) oGt := ⟨op_gt, op2_I fun _ _ _ => .bl _⟩
theorem v_ge : OpR X (compareOp .GtE) (rI0 fun i j => .bl (decide (j ≤ i))) ∧ Op2 W (rI0 fun i j => .bl (decide (j ≤ i))) oGe := ⟨op_ge, op2_I fun _ _ _ => .bl _⟩
end

def seqO : O → Option (Bool × List O)
  | .sh (.tup _ xs) => some (false, xs.map .sh)
  | .sh (.lst xs) => some (true, xs.map .sh)
  | .lst xs => some (true, xs)
  | _ => none
theorem get_sh {xs : List D} {i : Nat} {d : O} (h : (xs.map O.sh)[i]? = some d) : ∃ x, xs[i]? = some x ∧ d = .sh x := by
  rw [List.getElem?_map] at h
  cases q : xs[i]? with
  | none => rw [q] at h; cases h
  | some x => rw [q] at h; cases h; exact ⟨x, rfl, rfl⟩
theorem seqO_some {x : O} {b : Bool} {ys : List O} {v : V} {K : PySem.W.Frag} (le : Sub G H) (r : RpO W.C G H x v F) (h : seqO x = some (b, ys)) :
    ∃ p vs, v = .ref p ∧ (if b = true then SqL K H p vs else SqT K H p vs) ∧ Paired (fun d u => ∃ F1, RpO W.C G H d u F1) ys vs := by
  unfold seqO at h
  split at h
  · cases h
    cases r with
    | sh r n =>
      cases r with
      | tup h1 h2 h3 =>
        refine ⟨_, _, rfl, by rw [if_neg (by decide)]; exact .inl (Rd.sub le h1.rd), paired_of (by rw [List.length_map]; exact h2) fun i d u e1 e2 => ?_⟩
        obtain ⟨x, e, rfl⟩ := get_sh e1
        exact ⟨Emp, .sh' (h3 i x u e e2)⟩
  · cases h
    cases r with
    | sh r n =>
      cases r with
      | lst h1 h2 h3 =>
        refine ⟨_, _, rfl, by rw [if_pos rfl]; exact .inl (.inl (le _ _ h1)), paired_of (by rw [List.length_map]; exact h2) fun i d u e1 e2 => ?_⟩
        obtain ⟨x, e, rfl⟩ := get_sh e1
        exact ⟨Emp, .sh' (h3 i x u e e2)⟩
  · cases h
    cases r with
    | lst Fs g h1 h2 h3 h4 h5 h6 => exact ⟨_, _, rfl, by rw [if_pos rfl]; exact .inl (.inl h1), paired_of h2 fun i d u e1 e2 => ⟨Fs i, h3 i d u e1 e2⟩⟩
  · cases h
def allSh : List O → Option (List D)
  | [] => some []
  | x :: xs => (asD x).bind fun d => (allSh xs).bind fun ds => some (d :: ds)
theorem allSh_some : ∀ {ys : List O} {ds : List D}, allSh ys = some ds → ys = ds.map .sh
  | [], ds, h => by cases h; rfl
  | x :: xs, ds, h => by
    rw [allSh] at h
    cases e1 : asD x with
    | none => rw [e1] at h; cases h
    | some d =>
      rw [e1, Option.bind_some] at h
      cases e2 : allSh xs with
      | none => rw [e2] at h; cases h
      | some ds' =>
        rw [e2, Option.bind_some] at h
        cases h
        rw [asD_some e1, allSh_some e2, List.map_cons]
@[simp] theorem allSh_map : ∀ ds : List D, allSh (ds.map .sh) = some ds
  | [] => rfl
  | d :: ds => by rw [List.map_cons, allSh, asD, Option.bind_some, allSh_map ds, Option.bind_some]
theorem RpDs.of {ds : List D} {vs : List V} (h : Paired (fun d u => ∃ F1, RpO W.C G H d u F1) (ds.map .sh) vs) : RpDs W G ds vs := by
  have l := h.length
  rw [List.length_map] at l
  refine paired_of l fun i d u e1 e2 => ?_
  obtain ⟨F1, r⟩ := paired_get' h i (.sh d) u (by rw [List.getElem?_map, e1]; rfl) e2
  exact rp_sh r
def itemsD (x : O) : Option (Bool × List D) := (seqO x).bind fun p => (allSh p.2).bind fun ds => some (p.1, ds)
theorem itemsD_some {x : O} {b : Bool} {ds : List D} {v : V} {K : PySem.W.Frag} (le : Sub G H) (r : RpO W.C G H x v F) (h : itemsD x = some (b, ds)) :
    ∃ p vs, v = .ref p ∧ (if b = true then SqL K H p vs else SqT K H p vs) ∧ RpDs W G ds vs := by
  unfold itemsD at h
  cases e1 : seqO x with
  | none => rw [e1] at h; cases h
  | some q =>
    obtain ⟨b', ys⟩ := q
    rw [e1, Option.bind_some] at h
    cases e2 : allSh ys with
    | none => rw [e2] at h; cases h
    | some ds' =>
      rw [e2, Option.bind_some] at h
      cases h
      obtain ⟨p, vs, rfl, hs, hp⟩ := seqO_some (K := K) le r e1
      rw [allSh_some e2] at hp
      exact ⟨p, vs, rfl, hs, .of hp⟩
@[simp] theorem itemsD_tup (m : Bool) (xs : List D) : itemsD (.sh (.tup m xs)) = some (false, xs) := by simp [itemsD, seqO]
@[simp] theorem itemsD_lst (xs : List D) : itemsD (.sh (.lst xs)) = some (true, xs) := by simp [itemsD, seqO]
@[simp] theorem itemsD_own (xs : List D) : itemsD (.lst (xs.map .sh)) = some (true, xs) := by simp [itemsD, seqO]

def oLen : List O → Option O
  | [.sh (.str s)] => if s.length ≤ lim then some (.sh (.int s.length)) else none
  | [x] => (seqO x).bind fun p => some (.sh (.int p.2.length))
  | _ => none
theorem v_len {X : Cx} : CallR X (.builtin "len") (fun xs H Q => ∃ x n, xs = [x] ∧ LenV X.K x H n ∧ Q (.int n) H) ∧ OpN W (fun xs H Q => ∃ x n, xs = [x] ∧ LenV X.K x H n ∧ Q (.int n) H) oLen := by
  refine ⟨call_len, ?_⟩
  intro G H xs z vs Q le b r e q
  unfold oLen at e
  split at e
  · rename_i s
    cases r with
    | cons r1 r2 =>
      cases r2
      obtain ⟨F1, r1⟩ := r1
      split at e
      · rename_i hs
        cases e
        exact ⟨_, s.length, rfl, by rw [rp_str r1]; exact ⟨lim_le hs, rfl⟩, q _ G H Emp (Step.refl le b) (.sh' (.int _))⟩
      · cases e
  · rename_i x _
    cases r with
    | cons r1 r2 =>
      cases r2
      obtain ⟨F1, r1⟩ := r1
      cases e1 : seqO x with
      | none => rw [e1] at e; cases e
      | some p =>
        obtain ⟨bb, ys⟩ := p
        rw [e1, Option.bind_some] at e
        cases e
        obtain ⟨p, ws, rfl, hs, hp⟩ := seqO_some (K := X.K) le r1 e1
        refine ⟨_, ys.length, rfl, ?_, q _ G H Emp (Step.refl le b) (.sh' (.int _))⟩
        cases bb with
        | true => exact .inl ⟨ws, by simpa using hs, hp.length⟩
        | false => exact .inr ⟨ws, by simpa using hs, hp.length⟩
  · cases e
def oTuple : List O → Option O
  | [.sh (.tup m xs)] => some (.sh (.tup m xs))
  | [x] => (itemsD x).bind fun p => if p.1 then some (.sh (.tup false p.2)) else none
  | _ => none
theorem v_tuple {X : Cx} : CallR X (.type "tuple") (fun xs H Q => ∃ x, xs = [x] ∧ kTup X.K x H Q) ∧ OpN W (fun xs H Q => ∃ x, xs = [x] ∧ kTup X.K x H Q) oTuple := by
  constructor
  · intro pins s σ H xs us Q I r h
    obtain ⟨x, rfl, h⟩ := h
    obtain ⟨u, rfl, rx⟩ := vals1 r
    exact rl_tuple pins s σ H x u Q I rx h
  · intro G H xs z vs Q le b r e q
    unfold oTuple at e
    split at e
    · rename_i m ys
      cases e
      cases r with
      | cons r1 r2 =>
        cases r2
        obtain ⟨F1, r1⟩ := r1
        obtain ⟨p, ws, hv, hs, hp⟩ := itemsD_some (K := X.K) le r1 (itemsD_tup m ys)
        refine ⟨_, rfl, .inr ⟨p, ws, hv, by simpa using hs, ?_⟩⟩
        rw [← hv]
        exact q _ G H Emp (Step.refl le b) (.sh' (rp_sh r1))
    · rename_i x _
      cases r with
      | cons r1 r2 =>
        cases r2
        obtain ⟨F1, r1⟩ := r1
        cases e1 : itemsD x with
        | none => rw [e1] at e; cases e
        | some p =>
          obtain ⟨bb, ds⟩ := p
          rw [e1, Option.bind_some] at e
          cases bb with
          | false => cases e
          | true =>
            cases e
            obtain ⟨p, ws, rfl, hs, hp⟩ := itemsD_some (K := X.K) le r1 e1
            refine ⟨_, rfl, .inl ⟨p, ws, rfl, by simpa using hs, fun l hl => ?_⟩⟩
            have s := step_sh (o := .tup ws) le b hl
            exact q _ _ _ Emp s (.sh' ((hp.sub s.g).tup upd_same))
    · cases e
def oIx : O → O → Option O := fun x y => (itemsD x).bind fun p => (asI y).bind fun i => (atI p.2 i).bind fun d => some (.sh d)
theorem atI_paired {α β : Type} {R : α → β → Prop} {xs : List α} {ys : List β} {i : Int} {a : α} (h : Paired R xs ys) (e : atI xs i = some a) : ∃ b, atI ys i = some b ∧ R a b := by
  unfold atI at e ⊢
  rw [← h.length]
  cases q : ixN xs.length i with
  | none => rw [q] at e; cases e
  | some j =>
    rw [q, Option.bind_some] at e
    obtain ⟨b, e', r⟩ := paired_get h e
    exact ⟨b, by rw [Option.bind_some]; exact e', r⟩
theorem v_ix {X : Cx} : IxR X (fun x y H Q => rIxL X.K x y H Q ∨ rIxT X.K x y H Q) ∧ Op2 W (fun x y H Q => rIxL X.K x y H Q ∨ rIxT X.K x y H Q) oIx := by
  refine ⟨IxR.or ix_list ix_tup, ?_⟩
  intro G H x y z v u F1 F2 Q le b rx ry e q
  unfold oIx at e
  cases e1 : itemsD x with
  | none => rw [e1] at e; cases e
  | some p =>
    obtain ⟨bb, ds⟩ := p
    rw [e1, Option.bind_some] at e
    cases e2 : asI y with
    | none => rw [e2] at e; cases e
    | some i =>
      rw [e2, Option.bind_some] at e
      cases e3 : atI ds i with
      | none => simp only [e3] at e; cases e
      | some d =>
        simp only [e3, Option.bind_some] at e
        cases e
        rw [asI_some e2] at ry
        obtain ⟨p, ws, rfl, hs, hp⟩ := itemsD_some (K := X.K) le rx e1
        obtain ⟨w, hw, rw'⟩ := atI_paired hp e3
        cases bb with
        | true => exact .inl ⟨p, ws, i, w, rfl, rp_int ry, by simpa using hs, hw, q _ G H Emp (Step.refl le b) (.sh' rw')⟩
        | false => exact .inr ⟨p, ws, i, w, rfl, rp_int ry, by simpa using hs, hw, q _ G H Emp (Step.refl le b) (.sh' rw')⟩
end
end
end FD


set_option Elab.async false
set_option linter.all false
set_option maxRecDepth 100000
namespace FD
noncomputable section
open PySem PySem.Spec PyProof.Rows L2

mutual
def toPy : D → PyData
  | .non => .none
  | .bl b => .bool b
  | .int i => .int i
  | .str s => .str s
  | .tup _ xs => .tuple (toPyL xs)
  | .lst xs => .list (toPyL xs)
  | .frl _ => .none
  | .dK _ => .none
  | .dT _ => .none
  | .ins _ _ => .none
def toPyL : List D → List PyData
  | [] => []
  | x :: xs => toPy x :: toPyL xs
end
mutual
def plainD : D → Bool
  | .non => true
  | .bl _ => true
  | .int _ => true
  | .str _ => true
  | .tup _ xs => plainDL xs
  | .lst xs => plainDL xs
  | .frl _ => false
  | .dK _ => false
  | .dT _ => false
  | .ins _ _ => false
def plainDL : List D → Bool
  | [] => true
  | x :: xs => plainD x && plainDL xs
end
theorem toPyL_map : ∀ xs : List D, toPyL xs = xs.map toPy
  | [] => by rw [toPyL, List.map_nil]
  | x :: xs => by rw [toPyL, toPyL_map xs, List.map_cons]
theorem plainDL_all : ∀ xs : List D, plainDL xs = xs.all plainD
  | [] => by rw [plainDL, List.all_nil]
  | x :: xs => by rw [plainDL, plainDL_all xs, List.all_cons]
def pyOk (d : D) : Bool := plainD d && SeqAt.shaped (toPy d)

section
variable {W : Wd} {Wx : WX} {G G' H H' : Hp} {F F' : Fp} {K : PySem.W.Frag}
theorem dpAll_of {vs : List V} {ps : List PyData} (h : Paired (fun v p => Dp K H v p) vs ps) : DpAll K H vs ps := by
  induction h with
  | nil => exact .nil
  | cons r _ ih => exact .cons r ih
theorem RpD.dp {C : Wc} {d : D} {v : V} (le : Sub G H) (h : RpD C G d v) : plainD d = true → Dp K H v (toPy d) := by
  induction h with
  | non => intro _; rw [toPy]; exact .non
  | bl b => intro _; rw [toPy]; exact .bl b
  | int i => intro _; rw [toPy]; exact .int i
  | str s => intro _; rw [toPy]; exact .str s
  | @tup _ xs _ _ r l _ ih =>
    intro p
    rw [plainD, plainDL_all, List.all_eq_true] at p
    rw [toPy, toPyL_map]
    refine .tup (.inl (Rd.sub le r.rd)) (dpAll_of (paired_of (by rw [List.length_map]; exact l.symm) fun i a b e1 e2 => ?_))
    rw [List.getElem?_map] at e2
    cases q : xs[i]? with
    | none => rw [q] at e2; cases e2
    | some x => rw [q] at e2; cases e2; exact ih i x a q e1 (p x (List.mem_of_getElem? q))
  | @lst xs _ _ r l _ ih =>
    intro p
    rw [plainD, plainDL_all, List.all_eq_true] at p
    rw [toPy, toPyL_map]
    refine .lst (.inl (.inl (le _ _ r))) (dpAll_of (paired_of (by rw [List.length_map]; exact l.symm) fun i a b e1 e2 => ?_))
    rw [List.getElem?_map] at e2
    cases q : xs[i]? with
    | none => rw [q] at e2; cases e2
    | some x => rw [q] at e2; cases e2; exact ih i x a q e1 (p x (List.mem_of_getElem? q))
  | frl _ _ _ _ => intro p; rw [plainD] at p; cases p
  | dK _ _ _ _ => intro p; rw [plainD] at p; cases p
  | dT _ _ _ _ => intro p; rw [plainD] at p; cases p
  | ins _ _ _ _ => intro p; rw [plainD] at p; cases p
theorem RpO.dp {C : Wc} {d : O} {v : V} {F : Fp} (le : Sub G H) (h : RpO C G H d v F) : plainD d.frz = true → Dp K H v (toPy d.frz) := by
  induction h with
  | sh r n => rw [frz_sh]; exact r.dp le
  | @lst xs _ _ _ Fs g hh l r dj b hF ih =>
    rw [frz_lst]
    intro p
    rw [plainD, plainDL_all, List.all_eq_true] at p
    rw [toPy, toPyL_map]
    refine .lst (.inl (.inl hh)) (dpAll_of (paired_of (by rw [List.length_map, List.length_map]; exact l.symm) fun i a b e1 e2 => ?_))
    rw [List.getElem?_map, List.getElem?_map] at e2
    cases q : xs[i]? with
    | none => rw [q] at e2; cases e2
    | some x => rw [q] at e2; cases e2; exact ih i x a q e1 (p _ (List.mem_map.mpr ⟨x, List.mem_of_getElem? q, rfl⟩))
  | dK => rw [frz_dK]; intro p; rw [plainD] at p; cases p
  | dT => rw [frz_dT]; intro p; rw [plainD] at p; cases p
  | ins => rw [frz_ins]; intro p; rw [plainD] at p; cases p

def deq (x y : D) : Bool := PyData.eqv (toPy x) (toPy y)
def oEqW (neg : Bool) : O → O → Option O := fun x y => if pyOk x.frz && pyOk y.frz then some (.sh (.bl (if neg then !deq x.frz y.frz else deq x.frz y.frz))) else none
def oEq := oEqW false
def oNe := oEqW true
theorem eqW_core {neg : Bool} {x y z : O} {v u : V} {F1 F2 : Fp} {Q : VK} (le : Sub G H) (b : TabOk W G H) (rx : RpO W.C G H x v F1) (ry : RpO W.C G H y u F2) (e : oEqW neg x y = some z)
    (q : ∀ w G' H' F', Step W G H Emp G' H' F' → RpO W.C G' H' z w F' → Q w H') : ∃ d e, Dp K H v d ∧ Dp K H u e ∧ SeqAt.shaped d = true ∧ SeqAt.shaped e = true ∧ Q (.bl (if neg then !PyData.eqv d e else PyData.eqv d e)) H := by
  unfold oEqW at e
  split at e
  · rename_i h
    cases e
    simp only [pyOk, Bool.and_eq_true] at h
    obtain ⟨⟨p1, s1⟩, p2, s2⟩ := h
    exact ⟨_, _, rx.dp le p1, ry.dp le p2, s1, s2, q _ G H Emp (Step.refl le b) (.sh' (.bl _))⟩
  · cases e
theorem v_eq {X : Cx} (hu : X.A.units + 64 < cLine) : OpR X (compareOp .Eq) (rEqD X.K) ∧ Op2 W (rEqD X.K) oEq := ⟨op_eqD hu, by
  intro G H x y z v u F1 F2 Q le b rx ry e q
  exact eqW_core (neg := false) le b rx ry e q⟩
theorem v_ne {X : Cx} (hu : X.A.units + 64 < cLine) : OpR X (compareOp .NotEq) (rNeD X.K) ∧ Op2 W (rNeD X.K) oNe := ⟨op_neD hu, by
  intro G H x y z v u F1 F2 Q le b rx ry e q
  exact eqW_core (neg := true) le b rx ry e q⟩
def isNo : O → Bool
  | .sh .non => true
  | _ => false
def oIsW (neg : Bool) : O → O → Option O := fun x y => if isNo y then some (.sh (.bl (if neg then !isNo x else isNo x))) else none
def oIs := oIsW false
def oIsNot := oIsW true
theorem isNo_iff {x : O} {v : V} {F : Fp} {C : Wc} (r : RpO C G H x v F) : isNo x = decide (v = .non) := by
  cases r with
  | sh r _ => cases r <;> simp [isNo]
  | lst => simp [isNo]
  | dK => simp [isNo]
  | dT => simp [isNo]
  | ins => simp [isNo]
theorem OpR.or {X : Cx} {f : Value → Value → Sem Value} {r r' : R2} (h : OpR X f r) (h' : OpR X f r') : OpR X f (fun x y H Q => r x y H Q ∨ r' x y H Q) := by
  intro pins s σ H x y v u Q I rx ry q
  rcases q with q | q
  · exact h pins s σ H x y v u Q I rx ry q
  · exact h' pins s σ H x y v u Q I rx ry q
def orE (f g : O → O → Option O) : O → O → Option O := fun x y => match f x y with
  | some z => some z
  | none => g x y
theorem Op2.or {r r' : R2} {f g : O → O → Option O} (h : Op2 W r f) (h' : Op2 W r' g) : Op2 W (fun x y H Q => r x y H Q ∨ r' x y H Q) (orE f g) := by
  intro G H x y z v u F1 F2 Q le b rx ry e q
  unfold orE at e
  cases e1 : f x y with
  | some w => rw [e1] at e; cases e; exact .inl (h G H x y _ v u F1 F2 Q le b rx ry e1 q)
  | none => rw [e1] at e; exact .inr (h' G H x y _ v u F1 F2 Q le b rx ry e q)

def rInT (K : PySem.W.Frag) (neg : Bool) : R2 := fun x y H Q => ∃ d ds, Dp K H x d ∧ (Dp K H y (.list ds) ∨ Dp K H y (.tuple ds)) ∧ SeqAt.shaped d = true ∧ SeqAt.shaped (.list ds) = true ∧ Q (.bl (if neg then !ds.any fun z => PyData.eqv z d else ds.any fun z => PyData.eqv z d)) H
theorem op_inT {X : Cx} (hu : X.A.units + 65 < cLine) : OpR X (compareOp .In) (rInT X.K false) := by
  intro pins s σ H x y v u Q I rx ry h
  obtain ⟨d, ds, hd, he, sd, se, q⟩ := h
  obtain ⟨as, r1⟩ := Dp.reads I d x v hd rx
  rcases he with he | he
  · obtain ⟨bs, r2⟩ := Dp.reads I (.list ds) y u he ry
    exact SeqAt.in_list_reads r2 r1 (SeqAt.canLay_of_shaped se) (SeqAt.canLay_of_shaped sd) (PyProof.Rows.room_in_shaped sd hu) ⟨.bl _, H, I, rfl, q⟩
  · obtain ⟨bs, r2⟩ := Dp.reads I (.tuple ds) y u he ry
    exact SeqAt.in_tuple_reads r2 r1 (SeqAt.canLay_of_shaped se) (SeqAt.canLay_of_shaped sd) (PyProof.Rows.room_in_shaped sd hu) ⟨.bl _, H, I, rfl, q⟩
theorem op_notInT {X : Cx} (hu : X.A.units + 65 < cLine) : OpR X (compareOp .NotIn) (rInT X.K true) := by
  intro pins s σ H x y v u Q I rx ry h
  obtain ⟨d, ds, hd, he, sd, se, q⟩ := h
  obtain ⟨as, r1⟩ := Dp.reads I d x v hd rx
  rcases he with he | he
  · obtain ⟨bs, r2⟩ := Dp.reads I (.list ds) y u he ry
    exact SeqAt.notIn_list_reads r2 r1 (SeqAt.canLay_of_shaped se) (SeqAt.canLay_of_shaped sd) (PyProof.Rows.room_in_shaped sd hu) ⟨.bl _, H, I, rfl, q⟩
  · obtain ⟨bs, r2⟩ := Dp.reads I (.tuple ds) y u he ry
    exact SeqAt.notIn_tuple_reads r2 r1 (SeqAt.canLay_of_shaped se) (SeqAt.canLay_of_shaped sd) (PyProof.Rows.room_in_shaped sd hu) ⟨.bl _, H, I, rfl, q⟩
def itemsP : D → Option (List D)
  | .tup _ xs => some xs
  | .lst xs => some xs
  | _ => none
def oInT (neg : Bool) : O → O → Option O := fun x y => (itemsP y.frz).bind fun ys => if pyOk x.frz && pyOk (.lst ys) then some (.sh (.bl (if neg then !ys.any fun z => deq z x.frz else ys.any fun z => deq z x.frz))) else none
theorem any_deq (ys : List D) (d : D) : ((toPyL ys).any fun z => PyData.eqv z (toPy d)) = ys.any fun z => deq z d := by
  rw [toPyL_map, List.any_map]
  rfl
theorem op2_inT {neg : Bool} : Op2 W (rInT K neg) (oInT neg) := by
  intro G H x y z v u F1 F2 Q le b rx ry e q
  unfold oInT at e
  cases e1 : itemsP y.frz with
  | none => rw [e1] at e; cases e
  | some ys =>
    rw [e1, Option.bind_some] at e
    split at e
    · rename_i h
      cases e
      simp only [pyOk, Bool.and_eq_true] at h
      obtain ⟨⟨p1, s1⟩, p2, s2⟩ := h
      have hpy : toPy (.lst ys) = .list (toPyL ys) := by rw [toPy]
      rw [hpy] at s2
      refine ⟨_, toPyL ys, rx.dp le p1, ?_, s1, s2, ?_⟩
      · unfold itemsP at e1
        split at e1
        · rename_i m xs e2
          cases e1
          have p3 : plainD y.frz = true := by rw [e2, plainD]; rw [plainD] at p2; exact p2
          have r := ry.dp (K := K) le p3
          rw [e2, toPy] at r
          exact .inr r
        · rename_i xs e2
          cases e1
          have p3 : plainD y.frz = true := by rw [e2]; exact p2
          have r := ry.dp (K := K) le p3
          rw [e2, toPy] at r
          exact .inl r
        · cases e1
      · rw [any_deq]
        exact q _ G H Emp (Step.refl le b) (.sh' (.bl _))
    · cases e

def keyO : O → Option Key
  | .sh (.int i) => some (.inl i)
  | .sh (.str s) => some (.inr s)
  | _ => none
def keyD : D → Option Key
  | .int i => some (.inl i)
  | .str s => some (.inr s)
  | _ => none
def keysD : List D → Option (List Key)
  | [] => some []
  | d :: ds => (keyD d).bind fun k => (keysD ds).bind fun ks => some (k :: ks)
def keyT : O → Option (List Key)
  | .sh (.tup false xs) => keysD xs
  | _ => none
def look {κ α : Type} [DecidableEq κ] (kvs : List (κ × α)) (k : κ) : Option α := (kvs.find? fun kv => decide (kv.1 = k)).map (·.2)
theorem keyO_some {x : O} {k : Key} {v : V} {F : Fp} {C : Wc} (r : RpO C G H x v F) (h : keyO x = some k) : v = kV k := by
  unfold keyO at h
  split at h
  · cases h; exact rp_int r
  · cases h; exact rp_str r
  · cases h
theorem keyD_some {x : D} {k : Key} {v : V} {C : Wc} (r : RpD C G x v) (h : keyD x = some k) : v = kV k := by
  unfold keyD at h
  split at h
  · cases h; cases r; rfl
  · cases h; cases r; rfl
  · cases h
theorem keysD_some {C : Wc} : ∀ {xs : List D} {ks : List Key} {vs : List V}, Paired (fun d v => RpD C G d v) xs vs → keysD xs = some ks → vs = ks.map kV
  | [], ks, _, .nil, h => by cases h; rfl
  | d :: ds, ks, v :: vs, .cons r rs, h => by
    rw [keysD] at h
    cases e1 : keyD d with
    | none => rw [e1] at h; cases h
    | some k =>
      rw [e1, Option.bind_some] at h
      cases e2 : keysD ds with
      | none => rw [e2] at h; cases h
      | some ks' =>
        rw [e2, Option.bind_some] at h
        cases h
        rw [keyD_some r e1, keysD_some rs e2, List.map_cons]
theorem keyT_some {x : O} {ks : List Key} {v : V} {F : Fp} {C : Wc} (le : Sub G H) (r : RpO C G H x v F) (h : keyT x = some ks) : ∃ b, v = .ref b ∧ H b = some (.tup (ks.map kV)) := by
  unfold keyT at h
  split at h
  · have r' := rp_sh r
    cases r' with
    | tup r1 l r2 =>
      refine ⟨_, rfl, ?_⟩
      rw [← keysD_some (paired_of l r2) h]
      exact le _ _ r1
  · cases h
def dGet : O → O → Option (Option O)
  | .sh (.dK kvs), y => (keyO y).bind fun k => some ((look kvs k).map .sh)
  | .dK kvs, y => (keyO y).bind fun k => some (look kvs k)
  | .sh (.dT kvs), y => (keyT y).bind fun k => some ((look kvs k).map .sh)
  | .dT kvs, y => (keyT y).bind fun k => some (look kvs k)
  | _, _ => none
theorem look_rel {κ α β : Type} [DecidableEq κ] {R : α → β → Prop} : ∀ {xs : List (κ × α)} {ys : List (κ × β)} {k : κ}, xs.map (·.1) = ys.map (·.1) → Paired R (xs.map (·.2)) (ys.map (·.2)) →
    (look xs k = none ∧ look ys k = none) ∨ ∃ a b, look xs k = some a ∧ look ys k = some b ∧ R a b
  | [], [], _, _, _ => .inl ⟨rfl, rfl⟩
  | [], _ :: _, _, h, _ => by simp at h
  | _ :: _, [], _, h, _ => by simp at h
  | (k1, a) :: xs, (k2, b) :: ys, k, h, .cons r rs => by
    simp only [List.map_cons, List.cons.injEq] at h
    obtain ⟨rfl, h⟩ := h
    by_cases e : k1 = k
    · exact .inr ⟨a, b, by simp [look, e], by simp [look, e], r⟩
    · have h1 : look ((k1, a) :: xs) k = look xs k := by simp [look, e]
      have h2 : look ((k1, b) :: ys) k = look ys k := by simp [look, e]
      rw [h1, h2]
      exact look_rel h rs
theorem valV_look (kvs : List (Key × V)) (k : Key) : valV kvs k = look kvs k := rfl
theorem dGet_some {x y : O} {r : Option O} {v u : V} {F1 F2 : Fp} {C : Wc} (le : Sub G H) (rx : RpO C G H x v F1) (ry : RpO C G H y u F2) (h : dGet x y = some r) :
    ∃ a o, v = .ref a ∧ DGet H a u o ∧ ((r = none ∧ o = none) ∨ ∃ d w F, r = some d ∧ o = some w ∧ RpO C G H d w F) := by
  unfold dGet at h
  split at h
  · rename_i kvs
    cases e1 : keyO y with
    | none => rw [e1] at h; cases h
    | some k =>
      rw [e1, Option.bind_some] at h
      cases h
      cases rx with
      | sh rx _ =>
        cases rx with
        | dK h1 h2 h3 =>
          rw [keyO_some ry e1]
          refine ⟨_, _, rfl, .inl ⟨_, k, .inl (le _ _ h1), rfl, rfl⟩, ?_⟩
          rcases look_rel (k := k) h2 (paired_of (by simpa using congrArg List.length h2) h3) with ⟨q1, q2⟩ | ⟨d, w, q1, q2, q3⟩
          · exact .inl ⟨by rw [q1]; rfl, by rw [valV_look]; exact q2⟩
          · exact .inr ⟨.sh d, w, Emp, by rw [q1]; rfl, by rw [valV_look]; exact q2, .sh q3 fun _ h => h⟩
  · rename_i kvs
    cases e1 : keyO y with
    | none => rw [e1] at h; cases h
    | some k =>
      rw [e1, Option.bind_some] at h
      cases h
      cases rx with
      | dK Fs g h1 h2 h3 h4 h5 h6 =>
        rw [keyO_some ry e1]
        refine ⟨_, _, rfl, .inl ⟨_, k, .inl h1, rfl, rfl⟩, ?_⟩
        rcases look_rel (R := fun d w => ∃ F, RpO C G H d w F) (k := k) h2 (paired_of (by simpa using congrArg List.length h2) fun i a b e1 e2 => ⟨Fs i, h3 i a b e1 e2⟩) with ⟨q1, q2⟩ | ⟨d, w, q1, q2, F, q3⟩
        · exact .inl ⟨q1, by rw [valV_look]; exact q2⟩
        · exact .inr ⟨d, w, F, q1, by rw [valV_look]; exact q2, q3⟩
  · rename_i kvs
    cases e1 : keyT y with
    | none => rw [e1] at h; cases h
    | some k =>
      rw [e1, Option.bind_some] at h
      cases h
      cases rx with
      | sh rx _ =>
        cases rx with
        | dT h1 h2 h3 =>
          obtain ⟨b, rfl, hb⟩ := keyT_some le ry e1
          refine ⟨_, _, rfl, .inr ⟨_, k, b, .inl (le _ _ h1), rfl, hb, rfl⟩, ?_⟩
          rcases look_rel (k := k) h2 (paired_of (by simpa using congrArg List.length h2) h3) with ⟨q1, q2⟩ | ⟨d, w, q1, q2, q3⟩
          · exact .inl ⟨by rw [q1]; rfl, q2⟩
          · exact .inr ⟨.sh d, w, Emp, by rw [q1]; rfl, q2, .sh q3 fun _ h => h⟩
  · rename_i kvs
    cases e1 : keyT y with
    | none => rw [e1] at h; cases h
    | some k =>
      rw [e1, Option.bind_some] at h
      cases h
      cases rx with
      | dT Fs g h1 h2 h3 h4 h5 h6 =>
        obtain ⟨b, rfl, hb⟩ := keyT_some le ry e1
        refine ⟨_, _, rfl, .inr ⟨_, k, b, .inl h1, rfl, hb, rfl⟩, ?_⟩
        rcases look_rel (R := fun d w => ∃ F, RpO C G H d w F) (k := k) h2 (paired_of (by simpa using congrArg List.length h2) fun i a b e1 e2 => ⟨Fs i, h3 i a b e1 e2⟩) with ⟨q1, q2⟩ | ⟨d, w, q1, q2, F, q3⟩
        · exact .inl ⟨q1, q2⟩
        · exact .inr ⟨d, w, F, q1, q2, q3⟩
  · cases h
def rDIn (neg : Bool) : R2 := fun y x H Q => (∃ a o, x = .ref a ∧ DGet H a y o ∧ Q (.bl (if neg then !o.isSome else o.isSome)) H) ∨ ∃ a kvs, x = .ref a ∧ y = .non ∧ Rd H a (.dK kvs) ∧ Q (.bl neg) H
theorem op_dIn {X : Cx} (hu : X.A.units + 1 < cLine) : OpR X (compareOp .In) (rDIn false) := by
  intro pins s σ H y x iv u Q I ry rx q
  rcases q with ⟨a, ov, ex, g, q2⟩ | ⟨a, kvs, ex, ey, g, q2⟩
  · subst ex
    obtain rfl : u = Value.ref a := rx
    exact d_in hu I g ry fun s3 I3 => ⟨.bl ov.isSome, H, I3, rfl, q2⟩
  · subst ex ey
    obtain rfl : u = Value.ref a := rx
    obtain rfl : iv = Value.none := ry
    exact d_inNone I g fun s3 I3 => ⟨.bl false, H, I3, rfl, q2⟩
theorem op_dNotIn {X : Cx} (hu : X.A.units + 1 < cLine) : OpR X (compareOp .NotIn) (rDIn true) := by
  intro pins s σ H y x iv u Q I ry rx q
  rcases q with ⟨a, ov, ex, g, q2⟩ | ⟨a, kvs, ex, ey, g, q2⟩
  · subst ex
    obtain rfl : u = Value.ref a := rx
    exact d_notIn hu I g ry fun s3 I3 => ⟨.bl (!ov.isSome), H, I3, rfl, q2⟩
  · subst ex ey
    obtain rfl : u = Value.ref a := rx
    obtain rfl : iv = Value.none := ry
    exact d_notInNone I g fun s3 I3 => ⟨.bl true, H, I3, rfl, q2⟩
def isDK : O → Bool
  | .sh (.dK _) => true
  | .dK _ => true
  | _ => false
def oInD (neg : Bool) : O → O → Option O := fun y x => match dGet x y with
  | some o => some (.sh (.bl (if neg then !o.isSome else o.isSome)))
  | none => if isNo y && isDK x then some (.sh (.bl neg)) else none
theorem op2_inD {neg : Bool} : Op2 W (rDIn neg) (oInD neg) := by
  intro G H y x z u v F1 F2 Q le b ry rx e q
  unfold oInD at e
  split at e
  · rename_i o e1
    cases e
    obtain ⟨a, o', rfl, g, hr⟩ := dGet_some le rx ry e1
    refine .inl ⟨a, o', rfl, g, ?_⟩
    have e2 : o'.isSome = o.isSome := by
      rcases hr with ⟨rfl, rfl⟩ | ⟨d, w, F, rfl, rfl, _⟩ <;> rfl
    rw [e2]
    exact q _ G H Emp (Step.refl le b) (.sh' (.bl _))
  · split at e
    · rename_i h
      cases e
      simp only [Bool.and_eq_true] at h
      obtain ⟨h1, h2⟩ := h
      rw [isNo_iff ry] at h1
      unfold isDK at h2
      split at h2
      · cases rx with
        | sh rx _ =>
          cases rx with
          | dK k1 k2 k3 => exact .inr ⟨_, _, rfl, of_decide_eq_true h1, .inl (le _ _ k1), q _ G H Emp (Step.refl le b) (.sh' (.bl _))⟩
      · cases rx with
        | dK Fs g k1 k2 k3 k4 k5 k6 => exact .inr ⟨_, _, rfl, of_decide_eq_true h1, .inl k1, q _ G H Emp (Step.refl le b) (.sh' (.bl _))⟩
      · cases h2
    · cases e
def oIn := orE (oInT false) (oInD false)
def oNotIn := orE (oInT true) (oInD true)
theorem v_in {X : Cx} (hu : X.A.units + 65 < cLine) : OpR X (compareOp .In) (fun x y H Q => rInT X.K false x y H Q ∨ rDIn false x y H Q) ∧ Op2 W (fun x y H Q => rInT X.K false x y H Q ∨ rDIn false x y H Q) oIn :=
  ⟨OpR.or (op_inT hu) (op_dIn (by omega)), Op2.or op2_inT op2_inD⟩
theorem v_notIn {X : Cx} (hu : X.A.units + 65 < cLine) : OpR X (compareOp .NotIn) (fun x y H Q => rInT X.K true x y H Q ∨ rDIn true x y H Q) ∧ Op2 W (fun x y H Q => rInT X.K true x y H Q ∨ rDIn true x y H Q) oNotIn :=
  ⟨OpR.or (op_notInT hu) (op_dNotIn (by omega)), Op2.or op2_inT op2_inD⟩
def rIxD : R2 := fun x y H Q => ∃ a w, x = .ref a ∧ DGet H a y (some w) ∧ Q w H
theorem ix_dict {X : Cx} (hu : X.A.units + 1 < cLine) : IxR X rIxD := by
  intro value slice pins s σ H x y v u Q I rx ry h hs
  obtain ⟨a, w, rfl, g, q⟩ := h
  cases rx
  exact tail_any (dict_typeIs I g) PySem.F.slot_dict_getitem.lookup (d_getItem hu I g ry fun w' s3 I3 rw' => ⟨w, H, I3, rw', q⟩) hs
def oIxD : O → O → Option O := fun x y => (dGet x y).bind fun o => o.bind asSh
theorem op2_ixD : Op2 W rIxD oIxD := by
  intro G H x y z v u F1 F2 Q le b rx ry e q
  unfold oIxD at e
  cases e1 : dGet x y with
  | none => rw [e1] at e; cases e
  | some o =>
    rw [e1, Option.bind_some] at e
    obtain ⟨a, o', rfl, g, hr⟩ := dGet_some le rx ry e1
    rcases hr with ⟨rfl, rfl⟩ | ⟨d, w, F, rfl, rfl, r⟩
    · cases e
    · rw [Option.bind_some] at e
      unfold asSh at e
      split at e
      · cases e
        exact ⟨a, w, rfl, g, q _ G H Emp (Step.refl le b) (.sh' (rp_sh r))⟩
      · cases e
def oAt := orE oIx oIxD
theorem v_at {X : Cx} (hu : X.A.units + 1 < cLine) : IxR X (fun x y H Q => (rIxL X.K x y H Q ∨ rIxT X.K x y H Q) ∨ rIxD x y H Q) ∧ Op2 W (fun x y H Q => (rIxL X.K x y H Q ∨ rIxT X.K x y H Q) ∨ rIxD x y H Q) oAt :=
  ⟨IxR.or (IxR.or ix_list ix_tup) (ix_dict hu), Op2.or (v_ix (X := X)).2 op2_ixD⟩

def catT : O → O → Option O
  | .sh (.tup m xs), .sh (.tup m' ys) => if xs.length + ys.length ≤ lim then some (.sh (if xs.isEmpty then .tup m' ys else if ys.isEmpty then .tup m xs else .tup false (xs ++ ys))) else none
  | _, _ => none
theorem RpDs.append {xs ys : List D} {vs us : List V} (h : RpDs W G xs vs) (h' : RpDs W G ys us) : RpDs W G (xs ++ ys) (vs ++ us) := by
  induction h with
  | nil => exact h'
  | cons r _ ih => exact .cons r ih
theorem op2_catT : Op2 W (rCatA K) catT := by
  intro G H x y z v u F1 F2 Q le b rx ry e q
  unfold catT at e
  split at e
  · rename_i m xs m' ys
    split at e
    · rename_i hl
      cases e
      have rx' := rp_sh rx
      have ry' := rp_sh ry
      cases rx with
      | sh rx _ =>
        cases ry with
        | sh ry _ =>
          cases rx with
          | tup h1 h2 h3 =>
            cases ry with
            | tup k1 k2 k3 =>
              refine ⟨_, _, _, _, rfl, rfl, .inl (Rd.sub le h1.rd), .inl (Rd.sub le k1.rd), by have := lim_le hl; omega, fun ex => ?_, fun ex ey => ?_, fun ex ey p hp => ?_⟩
              · have e1 : xs.isEmpty = true := by
                  subst ex
                  cases xs with
                  | nil => rfl
                  | cons _ _ => simp at h2
                rw [e1, if_pos rfl] at q
                exact q _ G H Emp (Step.refl le b) (.sh' ry')
              · have e1 : xs.isEmpty = false := by
                  cases xs with
                  | nil =>
                    simp only [List.length_nil] at h2
                    exact absurd (List.eq_nil_of_length_eq_zero h2.symm) ex
                  | cons _ _ => rfl
                have e2 : ys.isEmpty = true := by
                  subst ey
                  cases ys with
                  | nil => rfl
                  | cons _ _ => simp at k2
                rw [e1, e2, if_neg (by decide), if_pos rfl] at q
                exact q _ G H Emp (Step.refl le b) (.sh' rx')
              · have e1 : xs.isEmpty = false := by
                  cases xs with
                  | nil =>
                    simp only [List.length_nil] at h2
                    exact absurd (List.eq_nil_of_length_eq_zero h2.symm) ex
                  | cons _ _ => rfl
                have e2 : ys.isEmpty = false := by
                  cases ys with
                  | nil =>
                    simp only [List.length_nil] at k2
                    exact absurd (List.eq_nil_of_length_eq_zero k2.symm) ey
                  | cons _ _ => rfl
                rw [e1, e2, if_neg (by decide), if_neg (by decide)] at q
                rename_i vs1 _ vs2
                have s := step_sh (o := .tup (vs1 ++ vs2)) le b hp
                have r1 : RpDs W G xs vs1 := paired_of h2 h3
                have r2 : RpDs W G ys vs2 := paired_of k2 k3
                exact q _ _ _ Emp s (.sh' (((r1.append r2).sub s.g).tup upd_same))
    · cases e
  · cases e
def lstO : O → Option (List D)
  | .sh (.lst xs) => some xs
  | .lst xs => allSh xs
  | _ => none
theorem lstO_some {x : O} {xs : List D} {v : V} {F : Fp} (le : Sub G H) (r : RpO W.C G H x v F) (h : lstO x = some xs) : ∃ p vs, v = .ref p ∧ H p = some (.lst vs) ∧ RpDs W G xs vs := by
  unfold lstO at h
  split at h
  · cases h
    cases r with
    | sh r _ =>
      cases r with
      | lst h1 h2 h3 => exact ⟨_, _, rfl, le _ _ h1, paired_of h2 h3⟩
  · rename_i ys
    have e := allSh_some h
    cases r with
    | lst Fs g h1 h2 h3 h4 h5 h6 =>
      refine ⟨_, _, rfl, h1, RpDs.of (H := H) ?_⟩
      rw [← e]
      exact paired_of h2 fun i d u e1 e2 => ⟨Fs i, h3 i d u e1 e2⟩
  · cases h
def catL : O → O → Option O := fun x y => (lstO x).bind fun xs => (lstO y).bind fun ys => if xs.length + ys.length ≤ lim then some (.lst ((xs ++ ys).map .sh)) else none
theorem op2_catL : Op2 W rCat catL := by
  intro G H x y z v u F1 F2 Q le b rx ry e q
  unfold catL at e
  cases e1 : lstO x with
  | none => rw [e1] at e; cases e
  | some xs =>
    rw [e1, Option.bind_some] at e
    cases e2 : lstO y with
    | none => rw [e2] at e; cases e
    | some ys =>
      rw [e2, Option.bind_some] at e
      split at e
      · rename_i hl
        cases e
        obtain ⟨p, vs, rfl, h1, r1⟩ := lstO_some le rx e1
        obtain ⟨p', us, rfl, h2, r2⟩ := lstO_some le ry e2
        refine ⟨p, p', vs, us, rfl, rfl, h1, h2, by rw [← r1.length, ← r2.length]; exact lim_le hl, fun l hl => ?_⟩
        have s := step_own (o := .lst (vs ++ us)) le b hl
        exact q _ _ _ _ s (((r1.append r2).sub s.g).own (none_of_le le hl) upd_same)
      · cases e
def catS : O → O → Option O
  | .sh (.str x), .sh (.str y) => if x.length + y.length ≤ lim then some (.sh (.str (x ++ y))) else none
  | _, _ => none
theorem op2_catS : Op2 W (fun x y H Q => ∃ i j, x = .str i ∧ y = .str j ∧ i.length + j.length ≤ sizeLine ∧ Q (.str (i ++ j)) H) catS := by
  intro G H x y z v u F1 F2 Q le b rx ry e q
  unfold catS at e
  split at e
  · split at e
    · rename_i hl
      cases e
      exact ⟨_, _, rp_str rx, rp_str ry, lim_le hl, q _ G H Emp (Step.refl le b) (.sh' (.str _))⟩
    · cases e
  · cases e
def oPlus := orE oAdd (orE catT (orE catL catS))
theorem v_plus {X : Cx} : OpR X (binaryOp .Add) (fun x y H Q => rI0 (fun i j => .int (i + j)) x y H Q ∨ (rCatA X.K x y H Q ∨ (rCat x y H Q ∨ ∃ i j, x = .str i ∧ y = .str j ∧ i.length + j.length ≤ sizeLine ∧ Q (.str (i ++ j)) H))) ∧
    Op2 W (fun x y H Q => rI0 (fun i j => .int (i + j)) x y H Q ∨ (rCatA X.K x y H Q ∨ (rCat x y H Q ∨ ∃ i j, x = .str i ∧ y = .str j ∧ i.length + j.length ≤ sizeLine ∧ Q (.str (i ++ j)) H))) oPlus :=
  ⟨OpR.or op_add (OpR.or op_catA (OpR.or op_cat op_add_str)), Op2.or (op2_I fun _ _ _ => .int _) (Op2.or op2_catT (Op2.or op2_catL op2_catS))⟩
def repL : O → O → Option O := fun x y => (lstO x).bind fun xs => (asI y).bind fun k => if okI k && decide (xs.length * k.toNat ≤ lim) then some (.lst (((List.replicate k.toNat xs).flatten).map .sh)) else none
theorem RpDs.rep {xs : List D} {vs : List V} (h : RpDs W G xs vs) : ∀ n : Nat, RpDs W G (List.replicate n xs).flatten (List.replicate n vs).flatten
  | 0 => .nil
  | n + 1 => by
    rw [List.replicate_succ, List.replicate_succ, List.flatten_cons, List.flatten_cons]
    exact h.append (h.rep n)
theorem op2_repL : Op2 W rRep repL := by
  intro G H x y z v u F1 F2 Q le b rx ry e q
  unfold repL at e
  cases e1 : lstO x with
  | none => rw [e1] at e; cases e
  | some xs =>
    rw [e1, Option.bind_some] at e
    cases e2 : asI y with
    | none => rw [e2] at e; cases e
    | some k =>
      rw [e2, Option.bind_some] at e
      split at e
      · rename_i hc
        cases e
        rw [Bool.and_eq_true] at hc
        obtain ⟨c0, c3⟩ := hc
        obtain ⟨c1, c2⟩ := okI_ok c0
        have c3 := of_decide_eq_true c3
        obtain ⟨p, vs, rfl, h1, r1⟩ := lstO_some le rx e1
        rw [asI_some e2] at ry
        refine ⟨p, k, vs, rfl, rp_int ry, h1, by omega, by omega, by rw [← r1.length]; exact lim_le c3, fun l hl => ?_⟩
        have s := step_own (o := .lst (List.replicate k.toNat vs).flatten) le b hl
        exact q _ _ _ _ s (((r1.rep _).sub s.g).own (none_of_le le hl) upd_same)
      · cases e
def oStar := orE oMul repL
theorem v_star {X : Cx} : OpR X (binaryOp .Mult) (fun x y H Q => rI CMul (fun i j => .int (i * j)) x y H Q ∨ rRep x y H Q) ∧ Op2 W (fun x y H Q => rI CMul (fun i j => .int (i * j)) x y H Q ∨ rRep x y H Q) oStar :=
  ⟨OpR.or op_mul op_rep, Op2.or (v_mul (X := X)).2 op2_repL⟩
end
end
end FD


set_option Elab.async false
set_option linter.all false
set_option maxRecDepth 100000
namespace FD
noncomputable section
open PySem PySem.Spec L2

inductive RS where
  | nx (e : En) | rt (d : O) (e : En) | bk (e : En) | ct (e : En) | exc (c : Nat) (e : En) | stk

def Pr (pr : List Nat) (σ σ' : St) : Prop := σ'.length = σ.length ∧ ∀ i ∈ pr, σ'[i]? = σ[i]?
theorem Pr.refl (pr : List Nat) (σ : St) : Pr pr σ σ := ⟨rfl, fun _ _ => rfl⟩
theorem Pr.trans {pr : List Nat} {a b c : St} (h : Pr pr a b) (h' : Pr pr b c) : Pr pr a c := ⟨h'.1.trans h.1, fun i hi => (h'.2 i hi).trans (h.2 i hi)⟩
theorem Pr.set {pr : List Nat} {σ : St} {i : Nat} {v : Option V} (h : i ∉ pr) : Pr pr σ (σ.set i v) := ⟨List.length_set, fun j hj => by
  rw [List.getElem?_set_ne]
  rintro rfl
  exact h hj⟩

section
variable (W : Wd) (Wx : WX) (pr : List Nat)
def tS (env : En) (r : RS) : TS := fun D σ H => ∃ G Fs, Sim W G env σ H Fs ∧ match r with
  | .nx env' => ∀ σ' G' H' Fs', Step W G H (All Fs) G' H' (All Fs') → Sim W G' env' σ' H' Fs' → Pr pr σ σ' → D.nx σ' H'
  | .rt d env' => ∀ v σ' G' H' F1 Fs', Step W G H (All Fs) G' H' (fun a => F1 a ∨ All Fs' a) → RpO W.C G' H' d v F1 → Sim W G' env' σ' H' Fs' → (∀ i a, F1 a → ¬ Fs' i a) → Pr pr σ σ' → D.rt v H'
  | .bk env' => ∀ σ' G' H' Fs', Step W G H (All Fs) G' H' (All Fs') → Sim W G' env' σ' H' Fs' → Pr pr σ σ' → D.bk σ' H'
  | .ct env' => ∀ σ' G' H' Fs', Step W G H (All Fs) G' H' (All Fs') → Sim W G' env' σ' H' Fs' → Pr pr σ σ' → D.ct σ' H'
  | .exc c env' => ∀ σ' G' H' Fs', Step W G H (All Fs) G' H' (All Fs') → Sim W G' env' σ' H' Fs' → Pr pr σ σ' → Wx (.ref (W.C.cls c)) none σ' H'
  | .stk => False
end
def SS (X : Cx) (W : Wd) (Wx : WX) (pr : List Nat) (g : En → RS) (st : Stmt) : Prop := ∀ env, PS X st (tS W Wx pr env (g env))
def SSs (X : Cx) (W : Wd) (Wx : WX) (pr : List Nat) (g : En → RS) (st : List Stmt) : Prop := ∀ env, PSs X st (tS W Wx pr env (g env))

section
variable {X : Cx} {W : Wd} {Wx : WX} {pr : List Nat} {G G' H H' : Hp} {env env' : En} {σ σ' : St} {Fs Fs' : Nat → Fp} {F F' : Fp}
theorem SE.any {f : En → RE} {e : Expr} (h : SE X W Wx f e) : PE X e (fun σ H Q => ∃ env, tE W Wx env (f env) σ H Q) := ⟨fun pins s σ H Q I ⟨env, q⟩ => (h env).run pins s σ H Q I q⟩
theorem ST.any {f : En → RB} {e : Expr} (h : ST X W Wx f e) : PT X e (fun σ H Q => ∃ env, tT W Wx env (f env) σ H Q) := ⟨fun pins s σ H Q I ⟨env, q⟩ => (h env).run pins s σ H Q I q⟩
theorem SU.any {f : En → R En (Bool × En)} {e : Expr} (h : SU X W Wx f e) : PT X e (fun σ H Q => ∃ env, tU W Wx env (f env) σ H Q) := ⟨fun pins s σ H Q I ⟨env, q⟩ => (h env).run pins s σ H Q I q⟩
theorem SSs.any {g : En → RS} {st : List Stmt} (h : SSs X W Wx pr g st) : PSs X st (fun D σ H => ∃ env, tS W Wx pr env (g env) D σ H) := ⟨fun pins s σ H D I ⟨env, q⟩ => (h env).run pins s σ H D I q⟩
def uT (f : En → RB) : En → R En (Bool × En) := fun env => match f env with
  | .ok b => .ok (b, env)
  | .exc c _ => .exc c env
  | .stk => .stk
theorem Step.all (s : Step W G H Emp G' H' F') : Step W G H (All Fs) G' H' (All Fs) := s.wide (fun _ h => h.elim) fun _ h => .inl h
theorem ST.su {f : En → RB} {e : Expr} (h : ST X W Wx f e) : SU X W Wx (uT f) e := fun env => (h env).imp fun σ H Q => by
  rintro ⟨G, Fs, S, q⟩
  refine ⟨G, Fs, S, ?_⟩
  unfold uT at q
  cases e1 : f env with
  | stk => rw [e1] at q; exact q
  | exc c u => rw [e1] at q; exact fun G' H' s => q G' H' Fs s.all (S.step0 s)
  | ok b => rw [e1] at q; exact fun G' H' s => q G' H' Fs s.all (S.step0 s)

theorem tS.after {r : RS} {D : Ends} (s : Step W G H (All Fs) G' H' (All Fs')) (S' : Sim W G' env' σ' H' Fs') (p : Pr pr σ σ') (S : Sim W G env σ H Fs)
    (q : match r with
      | .nx env' => ∀ σ' G' H' Fs', Step W G H (All Fs) G' H' (All Fs') → Sim W G' env' σ' H' Fs' → Pr pr σ σ' → D.nx σ' H'
      | .rt d env' => ∀ v σ' G' H' F1 Fs', Step W G H (All Fs) G' H' (fun a => F1 a ∨ All Fs' a) → RpO W.C G' H' d v F1 → Sim W G' env' σ' H' Fs' → (∀ i a, F1 a → ¬ Fs' i a) → Pr pr σ σ' → D.rt v H'
      | .bk env' => ∀ σ' G' H' Fs', Step W G H (All Fs) G' H' (All Fs') → Sim W G' env' σ' H' Fs' → Pr pr σ σ' → D.bk σ' H'
      | .ct env' => ∀ σ' G' H' Fs', Step W G H (All Fs) G' H' (All Fs') → Sim W G' env' σ' H' Fs' → Pr pr σ σ' → D.ct σ' H'
      | .exc c env' => ∀ σ' G' H' Fs', Step W G H (All Fs) G' H' (All Fs') → Sim W G' env' σ' H' Fs' → Pr pr σ σ' → Wx (.ref (W.C.cls c)) none σ' H'
      | .stk => False) : tS W Wx pr env' r D σ' H' := by
  refine ⟨G', Fs', S', ?_⟩
  cases r with
  | nx e => exact fun σ2 G2 H2 Fs2 s2 S2 p2 => q σ2 G2 H2 Fs2 (s.trans s2) S2 (p.trans p2)
  | rt d e => exact fun v σ2 G2 H2 F1 Fs2 s2 r2 S2 dj p2 => q v σ2 G2 H2 F1 Fs2 (s.trans s2) r2 S2 dj (p.trans p2)
  | bk e => exact fun σ2 G2 H2 Fs2 s2 S2 p2 => q σ2 G2 H2 Fs2 (s.trans s2) S2 (p.trans p2)
  | ct e => exact fun σ2 G2 H2 Fs2 s2 S2 p2 => q σ2 G2 H2 Fs2 (s.trans s2) S2 (p.trans p2)
  | exc c e => exact fun σ2 G2 H2 Fs2 s2 S2 p2 => q σ2 G2 H2 Fs2 (s.trans s2) S2 (p.trans p2)
  | stk => exact q

def sNil : En → RS := fun env => .nx env
def sCons (g h : En → RS) : En → RS := fun env => match g env with
  | .nx e => h e
  | r => r
theorem SSs_nil : SSs X W Wx pr sNil [] := fun env => pss_nil.imp fun D σ H => by
  rintro ⟨G, Fs, S, q⟩
  exact q σ G H Fs S.refl S (Pr.refl _ _)
theorem SSs_cons {g h : En → RS} {st : Stmt} {rest : List Stmt} (h1 : SS X W Wx pr g st) (h2 : SSs X W Wx pr h rest) : SSs X W Wx pr (sCons g h) (st :: rest) := fun env => by
  refine (pss_cons (h1 env) h2.any).imp fun D σ H => ?_
  rintro ⟨G, Fs, S, q⟩
  refine ⟨G, Fs, S, ?_⟩
  unfold sCons at q
  cases e1 : g env with
  | nx e =>
    rw [e1] at q
    exact fun σ' G' H' Fs' s S' p => ⟨e, tS.after s S' p S q⟩
  | rt d e => rw [e1] at q; exact q
  | bk e => rw [e1] at q; exact q
  | ct e => rw [e1] at q; exact q
  | exc c e => rw [e1] at q; exact q
  | stk => rw [e1] at q; exact q

theorem Sim.set {d : O} {v : V} {F1 : Fp} {i : Nat} (S : Sim W G env σ H Fs) (r : RpO W.C G H d v F1) (dj : ∀ i a, F1 a → ¬ Fs i a) :
    Sim W G (env.set i (some d)) (σ.set i (some v)) H (fun j => if j = i then F1 else Fs j) where
  le := S.le
  len := by rw [List.length_set, List.length_set]; exact S.len
  rp := fun j d' e => by
    by_cases h : i = j
    · subst h
      have hl : i < env.length := by
        have h1 := (List.getElem?_eq_some_iff.mp e).1
        rw [List.length_set] at h1
        exact h1
      rw [List.getElem?_set_self hl] at e
      cases e
      exact ⟨v, by rw [List.getElem?_set_self (by rw [← S.len]; exact hl)], by simpa using r⟩
    · rw [List.getElem?_set_ne h] at e
      obtain ⟨w, h1, h2⟩ := S.rp j d' e
      exact ⟨w, by rw [List.getElem?_set_ne h]; exact h1, by simpa [Ne.symm h] using h2⟩
  dj := fun j k a hjk h1 h2 => by
    by_cases hj : j = i
    · by_cases hk : k = i
      · exact hjk (hj.trans hk.symm)
      · simp only [hj, hk, if_true, if_false] at h1 h2
        exact dj k a h1 h2
    · by_cases hk : k = i
      · simp only [hj, hk, if_true, if_false] at h1 h2
        exact dj j a h2 h1
      · simp only [hj, hk, if_false] at h1 h2
        exact S.dj j k a hjk h1 h2
  ow := fun j a h => by
    by_cases hj : j = i
    · simp only [hj, if_true] at h
      exact r.own a h
    · simp only [hj, if_false] at h
      exact S.ow j a h
  tb := S.tb
theorem all_set {F1 : Fp} {i : Nat} : ∀ a, All (fun j => if j = i then F1 else Fs j) a → F1 a ∨ All Fs a := fun a ⟨j, h⟩ => by
  by_cases hj : j = i
  · simp only [hj, if_true] at h; exact .inl h
  · simp only [hj, if_false] at h; exact .inr ⟨j, h⟩
def sSet (i : Nat) (f : En → RE) : En → RS := fun env => match f env with
  | .ok (d, e) => .nx (e.set i (some d))
  | .exc c e => .exc c e
  | .stk => .stk
theorem set_core {f : En → RE} {i : Nat} {D : Ends} (hp : i ∉ pr) (q : tS W Wx pr env (sSet i f env) D σ H) : tE W Wx env (f env) σ H fun x H1 => D.nx (σ.set i (some x)) H1 := by
  obtain ⟨G, Fs, S, q⟩ := q
  refine ⟨G, Fs, S, ?_⟩
  unfold sSet at q
  cases e1 : f env with
  | stk => rw [e1] at q; exact q
  | exc c e => rw [e1] at q; exact fun G' H' Fs' s S' => q σ G' H' Fs' s S' (Pr.refl _ _)
  | ok p =>
    obtain ⟨d, e⟩ := p
    rw [e1] at q
    intro v G' H' F1 Fs' s r S' dj
    exact q _ G' H' _ (s.wide (fun _ h => h) fun a h => .inr (all_set a h)) (S'.set r dj) (Pr.set hp)
theorem SS_set (i : Nat) {x : Str} {e : Expr} {f : En → RE} {pos' pos : Pos} (hN : X.N.Nodup) (he : SE X W Wx f e) (hp : i ∉ pr := by decide) (hi : X.N[i]? = some x := by rfl) (hx : Loc X.env.scope x := by first | exact .inl rfl | exact .inr rfl)
    (hs : swapsWith e (some (.Name x pos')) pos.line X.env = pure false := by rfl) (hf : X.fn x = true ∨ X.env.scope.names.lookup x = some .local := by first | exact .inl rfl | exact .inr rfl) : SS X W Wx pr (sSet i f) (.Assign [.Name x pos'] e pos) :=
  fun env => (ps_set hN hi hx (he env) hs hf).imp fun D σ H q => set_core hp q

def sRet (f : En → RE) : En → RS := fun env => match f env with
  | .ok (d, e) => .rt d e
  | .exc c e => .exc c e
  | .stk => .stk
theorem SS_ret {e : Expr} {f : En → RE} {pos : Pos} (he : SE X W Wx f e) : SS X W Wx pr (sRet f) (.Return (some e) pos) := fun env => (ps_ret (he env)).imp fun D σ H => by
  rintro ⟨G, Fs, S, q⟩
  refine ⟨G, Fs, S, ?_⟩
  unfold sRet at q
  cases e1 : f env with
  | stk => rw [e1] at q; exact q
  | exc c e => rw [e1] at q; exact fun G' H' Fs' s S' => q σ G' H' Fs' s S' (Pr.refl _ _)
  | ok p =>
    obtain ⟨d, e⟩ := p
    rw [e1] at q
    exact fun v G' H' F1 Fs' s r S' dj => q v σ G' H' F1 Fs' s r S' dj (Pr.refl _ _)
def sRetN : En → RS := fun env => .rt (.sh .non) env
def sExpr (f : En → RE) : En → RS := fun env => match f env with
  | .ok (_, e) => .nx e
  | .exc c e => .exc c e
  | .stk => .stk
theorem SS_expr {e : Expr} {f : En → RE} {pos : Pos} (he : SE X W Wx f e) (hs : swapsWith e none pos.line X.env = pure false := by rfl) : SS X W Wx pr (sExpr f) (.Expr e pos) := fun env => (ps_expr (he env) hs).imp fun D σ H => by
  rintro ⟨G, Fs, S, q⟩
  refine ⟨G, Fs, S, ?_⟩
  unfold sExpr at q
  cases e1 : f env with
  | stk => rw [e1] at q; exact q
  | exc c e => rw [e1] at q; exact fun G' H' Fs' s S' => q σ G' H' Fs' s S' (Pr.refl _ _)
  | ok p =>
    obtain ⟨d, e⟩ := p
    rw [e1] at q
    exact fun v G' H' F1 Fs' s r S' dj => q σ G' H' Fs' (s.wide (fun _ h => h) fun a h => .inr (.inr h)) S' (Pr.refl _ _)
def sBrk : En → RS := fun env => .bk env
def sCnt : En → RS := fun env => .ct env
def sIf (c : En → R En (Bool × En)) (g h : En → RS) : En → RS := fun env => match c env with
  | .ok (true, e) => g e
  | .ok (false, e) => h e
  | .exc c e => .exc c e
  | .stk => .stk
theorem SS_if {c : Expr} {a b : List Stmt} {f : En → R En (Bool × En)} {g h : En → RS} {pos : Pos} (hc : SU X W Wx f c) (ha : SSs X W Wx pr g a) (hb : SSs X W Wx pr h b) : SS X W Wx pr (sIf f g h) (.If c a b pos) := fun env =>
  (ps_if (hc env) ha.any hb.any).imp fun D σ H => by
    rintro ⟨G, Fs, S, q⟩
    refine ⟨G, Fs, S, ?_⟩
    unfold sIf at q
    cases e1 : f env with
    | stk => rw [e1] at q; exact q
    | exc c e => rw [e1] at q; exact fun G' H' Fs' s S' => q σ G' H' Fs' s S' (Pr.refl _ _)
    | ok p =>
      obtain ⟨b, e⟩ := p
      rw [e1] at q
      intro G' H' Fs' s S'
      cases b with
      | true => rw [if_pos rfl]; exact ⟨e, tS.after s S' (Pr.refl _ _) S q⟩
      | false => rw [if_neg (by decide)]; exact ⟨e, tS.after s S' (Pr.refl _ _) S q⟩

noncomputable def fuelW : Nat := Classical.choose (⟨1000, Nat.le_refl _⟩ : ∃ n : Nat, 1000 ≤ n)
theorem fuelW_ge : 1000 ≤ fuelW := Classical.choose_spec (⟨1000, Nat.le_refl _⟩ : ∃ n : Nat, 1000 ≤ n)
def whl (c : En → R En (Bool × En)) (body : En → RS) : Nat → En → RS
  | 0, _ => .stk
  | n + 1, env => match c env with
    | .ok (true, e) => match body e with
      | .nx e => whl c body n e
      | .ct e => whl c body n e
      | .bk e => .nx e
      | r => r
    | .ok (false, e) => .nx e
    | .exc c e => .exc c e
    | .stk => .stk
theorem SS_while (n : Nat) {c : Expr} {a : List Stmt} {f : En → R En (Bool × En)} {g : En → RS} {pos : Pos} (hp : PassesOwn (model X.prog X.w) X.A X.env X.xe) (hc : SU X W Wx f c) (ha : SSs X W Wx pr g a) : SS X W Wx pr (whl f g n) (.While c a [] pos) := fun env =>
  (ps_while hp hc.any ha.any).imp fun D σ H q => by
    refine ⟨fun m σ H => ∃ env, tS W Wx pr env (whl f g m env) D σ H, ⟨n, env, q⟩, ?_⟩
    rintro m σ H ⟨env, G, Fs, S, q⟩
    cases m with
    | zero => exact q.elim
    | succ m =>
      refine ⟨env, G, Fs, S, ?_⟩
      unfold whl at q
      cases e1 : f env with
      | stk => rw [e1] at q; exact q
      | exc c e => rw [e1] at q; exact fun G' H' Fs' s S' => q σ G' H' Fs' s S' (Pr.refl _ _)
      | ok p =>
        obtain ⟨b, e⟩ := p
        rw [e1] at q
        intro G' H' Fs' s S'
        cases b with
        | false => rw [if_neg (by decide)]; exact q σ G' H' Fs' s S' (Pr.refl _ _)
        | true =>
          rw [if_pos rfl]
          refine ⟨fun σ' H' => ∃ env, tS W Wx pr env (whl f g m env) D σ' H', fun σ' H' h => ⟨m, Nat.lt_succ_self m, h⟩, e, G', Fs', S', ?_⟩
          dsimp only at q
          cases e2 : g e with
          | stk => rw [e2] at q; exact q
          | nx e' => rw [e2] at q; exact fun σ2 G2 H2 Fs2 s2 S2 p2 => ⟨e', tS.after (s.trans s2) S2 p2 S q⟩
          | ct e' => rw [e2] at q; exact fun σ2 G2 H2 Fs2 s2 S2 p2 => ⟨e', tS.after (s.trans s2) S2 p2 S q⟩
          | bk e' => rw [e2] at q; exact fun σ2 G2 H2 Fs2 s2 S2 p2 => q σ2 G2 H2 Fs2 (s.trans s2) S2 p2
          | rt d e' => rw [e2] at q; exact fun v σ2 G2 H2 F1 Fs2 s2 r2 S2 dj p2 => q v σ2 G2 H2 F1 Fs2 (s.trans s2) r2 S2 dj p2
          | exc c e' => rw [e2] at q; exact fun σ2 G2 H2 Fs2 s2 S2 p2 => q σ2 G2 H2 Fs2 (s.trans s2) S2 p2

def Src (W : Wd) (J : It) (G : Hp) (ds : List D) : Prop := ∃ (Gd : Hp → Prop) (Y : Nat → Hp → V → Hp → Prop), Walk J ds.length Gd Y ∧ (∀ H, Sub G H → Gd H) ∧
  ∀ (i : Nat) (G' H' : Hp) (x : V) (H2 : Hp), i < ds.length → Sub G G' → Sub G' H' → TabOk W G' H' → Y i H' x H2 → ∃ G2 d, ds[i]? = some d ∧ Step W G' H' Emp G2 H2 Emp ∧ RpD W.C G2 d x
theorem Src.sub {J : It} {ds : List D} (h : Src W J G ds) (s : Sub G G') : Src W J G' ds := by
  obtain ⟨Gd, Y, w, h1, h2⟩ := h
  exact ⟨Gd, Y, w, fun H q => h1 H fun a o e => q a o (s a o e), fun i G2 H2 x H3 hi q => h2 i G2 H2 x H3 hi fun a o e => q a o (s a o e)⟩
def tI (W : Wd) (Wx : WX) (env : En) (r : R En (List D × En)) : TI := fun σ H R => ∃ G Fs, Sim W G env σ H Fs ∧ match r with
  | .ok (ds, env') => ∀ J G' H' Fs', Step W G H (All Fs) G' H' (All Fs') → Sim W G' env' σ H' Fs' → Src W J G' ds → R J H'
  | .exc c env' => ∀ G' H' Fs', Step W G H (All Fs) G' H' (All Fs') → Sim W G' env' σ H' Fs' → Wx (.ref (W.C.cls c)) none σ H'
  | .stk => False
def SI (X : Cx) (W : Wd) (Wx : WX) (tg : Expr) (f : En → R En (List D × En)) (iter : Expr) : Prop := ∀ env, PI X tg iter (tI W Wx env (f env))
theorem _root_.L2.PI.imp {tg iter : Expr} {t t' : TI} (h : PI X tg iter t) (hi : ∀ σ H R, t' σ H R → t σ H R) : PI X tg iter t' := ⟨fun pins s σ H R I q => h.run pins s σ H R I (hi σ H R q)⟩
def SG (X : Cx) (W : Wd) (pr : List Nat) (tgt : D → En → Option En) (tg : Expr) : Prop := ∃ g, PG X tg g ∧ ∀ (G : Hp) (env env' : En) (σ : St) (H : Hp) (Fs : Nat → Fp) (d : D) (v : V) (Q : St → Hp → Prop), Sim W G env σ H Fs → RpD W.C G d v → tgt d env = some env' →
  (∀ σ' Fs', Sim W G env' σ' H Fs' → (∀ a, All Fs' a → All Fs a) → Pr pr σ σ' → Q σ' H) → g v σ H Q
def gN (i : Nat) : D → En → Option En := fun d env => some (env.set i (some (.sh d)))
theorem SG_name (i : Nat) {x : Str} {pos : Pos} (hN : X.N.Nodup) (hp : i ∉ pr := by decide) (hi : X.N[i]? = some x := by rfl) (hx : Loc X.env.scope x := by first | exact .inl rfl | exact .inr rfl) (hf : X.fn x = true ∨ X.env.scope.names.lookup x = some .local := by first | exact .inl rfl | exact .inr rfl) :
    SG X W pr (gN i) (.Name x pos) := by
  refine ⟨gName i, pg_name hN hi hx hf, fun G env env' σ H Fs d v Q S r e q => ?_⟩
  cases e
  refine q _ _ (S.set (F1 := Emp) (.sh r fun _ h => h) fun _ _ h => h.elim) (fun a h => ?_) (Pr.set hp)
  rcases all_set a h with h | h
  · exact h.elim
  · exact h
def SGs (X : Cx) (W : Wd) (pr : List Nat) (n : Nat) (tgt : List D → En → Option En) (tgs : List Expr) : Prop := (∀ xs env env', tgt xs env = some env' → xs.length = n) ∧ ∃ g, PGs X tgs g ∧ ∀ (G : Hp) (env env' : En) (σ : St) (H : Hp) (Fs : Nat → Fp) (ds : List D) (vs : List V) (Q : St → Hp → Prop), Sim W G env σ H Fs → RpDs W G ds vs → tgt ds env = some env' →
  (∀ σ' Fs', Sim W G env' σ' H Fs' → (∀ a, All Fs' a → All Fs a) → Pr pr σ σ' → Q σ' H) → g vs σ H Q
def gsNil : List D → En → Option En := fun ds env => if ds.isEmpty then some env else none
def gsCons (t : D → En → Option En) (u : List D → En → Option En) : List D → En → Option En := fun ds env => match ds with
  | [] => none
  | d :: ds => (t d env).bind fun e => u ds e
theorem SGs_nil : SGs X W pr 0 gsNil [] := by
  refine ⟨fun xs env env' h => ?_, gNil, pgs_nil, fun G env env' σ H Fs ds vs Q S r e q => ?_⟩
  · unfold gsNil at h
    split at h
    · rename_i h'
      cases xs with
      | nil => rfl
      | cons _ _ => cases h'
    · cases h
  · unfold gsNil at e
    split at e
    · rename_i h
      cases e
      cases r with
      | nil => exact ⟨rfl, q σ Fs S (fun _ h => h) (Pr.refl _ _)⟩
      | cons _ _ => cases h
    · cases e
theorem SGs_cons {n : Nat} {t : D → En → Option En} {u : List D → En → Option En} {e : Expr} {es : List Expr} (h1 : SG X W pr t e) (h2 : SGs X W pr n u es) (hs : (assignEach (e :: es) X.env).map (·.2) = assign e X.env :: (assignEach es X.env).map (·.2) := by rfl) : SGs X W pr (n + 1) (gsCons t u) (e :: es) := by
  obtain ⟨g1, p1, k1⟩ := h1
  obtain ⟨hn, g2, p2, k2⟩ := h2
  refine ⟨fun xs env env' h => ?_, gCons g1 g2, pgs_cons p1 p2 hs, fun G env env' σ H Fs ds vs Q S r e q => ?_⟩
  · cases xs with
    | nil => cases h
    | cons x xs =>
      have h' : (t x env).bind (fun e => u xs e) = some env' := h
      cases e1 : t x env with
      | none => rw [e1] at h'; cases h'
      | some e2 => rw [e1, Option.bind_some] at h'; rw [List.length_cons, hn xs e2 env' h']
  · cases r with
    | nil => cases e
    | @cons d v ds vs r rs =>
      have e' : (t d env).bind (fun e => u ds e) = some env' := e
      cases e1 : t d env with
      | none => rw [e1] at e'; cases e'
      | some e2 =>
        rw [e1, Option.bind_some] at e'
        refine ⟨_, _, rfl, k1 G env e2 σ H Fs _ _ _ S r e1 fun σ' Fs' S' a p => ?_⟩
        exact k2 G e2 env' σ' H Fs' _ _ Q S' rs e' fun σ2 Fs2 S2 a2 pp2 => q σ2 Fs2 S2 (fun x h => a x (a2 x h)) (p.trans pp2)
def gT (u : List D → En → Option En) : D → En → Option En := fun d env => match d with
  | .tup _ xs => u xs env
  | _ => none
theorem SG_tup {u : List D → En → Option En} {es : List Expr} {k : Nat} {pos : Pos} (hc : X.calm = true) {n : Nat} (h : SGs X W pr n u es) (hst : (assignEach es X.env).findIdx? (·.1) = none := by rfl) (hn : (assignEach es X.env).length = n := by rfl) : SG X W pr (gT u) (.Tuple es k pos) := by
  obtain ⟨hu, g, p, kk⟩ := h
  refine ⟨gTup X.K n g, pg_tup hc p hn hst, fun G env env' σ H Fs d v Q S r e q => ?_⟩
  unfold gT at e
  split at e
  · rename_i m xs
    cases r with
    | tup h1 h2 h3 => exact ⟨_, _, rfl, .inl (Rd.sub S.le h1.rd), by rw [← h2]; exact hu _ _ _ e, kk G env env' σ H Fs _ _ Q S (paired_of h2 h3) e q⟩
  · cases e

def forL (tgt : D → En → Option En) (body : En → RS) : List D → En → RS
  | [], env => .nx env
  | d :: ds, env => match tgt d env with
    | none => .stk
    | some env1 => match body env1 with
      | .nx e => forL tgt body ds e
      | .ct e => forL tgt body ds e
      | .bk e => .nx e
      | r => r
def sFor (it : En → R En (List D × En)) (tgt : D → En → Option En) (body : En → RS) : En → RS := fun env => match it env with
  | .ok (ds, e) => forL tgt body ds e
  | .exc c e => .exc c e
  | .stk => .stk
def qS (W : Wd) (Wx : WX) (pr : List Nat) (r : RS) (D : Ends) (G : Hp) (σ : St) (H : Hp) (F : Fp) : Prop := match r with
  | .nx env' => ∀ σ' G' H' Fs', Step W G H F G' H' (All Fs') → Sim W G' env' σ' H' Fs' → Pr pr σ σ' → D.nx σ' H'
  | .rt d env' => ∀ v σ' G' H' F1 Fs', Step W G H F G' H' (fun a => F1 a ∨ All Fs' a) → RpO W.C G' H' d v F1 → Sim W G' env' σ' H' Fs' → (∀ i a, F1 a → ¬ Fs' i a) → Pr pr σ σ' → D.rt v H'
  | .bk env' => ∀ σ' G' H' Fs', Step W G H F G' H' (All Fs') → Sim W G' env' σ' H' Fs' → Pr pr σ σ' → D.bk σ' H'
  | .ct env' => ∀ σ' G' H' Fs', Step W G H F G' H' (All Fs') → Sim W G' env' σ' H' Fs' → Pr pr σ σ' → D.ct σ' H'
  | .exc c env' => ∀ σ' G' H' Fs', Step W G H F G' H' (All Fs') → Sim W G' env' σ' H' Fs' → Pr pr σ σ' → Wx (.ref (W.C.cls c)) none σ' H'
  | .stk => False
theorem qS.step {r : RS} {D : Ends} (q : qS W Wx pr r D G σ H F) (s : Step W G H F G' H' F') (p : Pr pr σ σ') : qS W Wx pr r D G' σ' H' F' := by
  unfold qS at q ⊢
  cases r with
  | nx e => exact fun σ2 G2 H2 Fs2 s2 S2 p2 => q σ2 G2 H2 Fs2 (s.trans s2) S2 (p.trans p2)
  | rt d e => exact fun v σ2 G2 H2 F1 Fs2 s2 r2 S2 dj p2 => q v σ2 G2 H2 F1 Fs2 (s.trans s2) r2 S2 dj (p.trans p2)
  | bk e => exact fun σ2 G2 H2 Fs2 s2 S2 p2 => q σ2 G2 H2 Fs2 (s.trans s2) S2 (p.trans p2)
  | ct e => exact fun σ2 G2 H2 Fs2 s2 S2 p2 => q σ2 G2 H2 Fs2 (s.trans s2) S2 (p.trans p2)
  | exc c e => exact fun σ2 G2 H2 Fs2 s2 S2 p2 => q σ2 G2 H2 Fs2 (s.trans s2) S2 (p.trans p2)
  | stk => exact q
theorem tS_iff {r : RS} {D : Ends} : tS W Wx pr env r D σ H ↔ ∃ G Fs, Sim W G env σ H Fs ∧ qS W Wx pr r D G σ H (All Fs) := by
  unfold tS qS
  cases r <;> exact Iff.rfl
theorem SS_for {tg iter : Expr} {a : List Stmt} {it : En → R En (List D × En)} {tgt : D → En → Option En} {g : En → RS} {pos : Pos} (hp : PassesOwn (model X.prog X.w) X.A X.env X.xe) (hc : X.calm = true) (hi : SI X W Wx tg it iter) (hg : SG X W pr tgt tg) (ha : SSs X W Wx pr g a) (hs : ∀ x, foldedSetIterable iter X.env x = pure x := by intro _; rfl) :
    SS X W Wx pr (sFor it tgt g) (.For tg iter a [] pos) := fun env => by
  obtain ⟨gg, pg, kg⟩ := hg
  refine (ps_for hp hc (hi env) pg ha.any hs).imp fun D σ H q => ?_
  rw [tS_iff] at q
  obtain ⟨G, Fs, S, q⟩ := q
  refine ⟨G, Fs, S, ?_⟩
  unfold sFor at q
  cases e1 : it env with
  | stk => rw [e1] at q; exact q
  | exc c e => rw [e1] at q; exact fun G' H' Fs' s S' => q σ G' H' Fs' s S' (Pr.refl _ _)
  | ok pp =>
    obtain ⟨ds, e⟩ := pp
    rw [e1] at q
    intro J G1 H1 Fs1 s1 S1 src
    have q1 : qS W Wx pr (forL tgt g ds e) D G1 σ H1 (All Fs1) := q.step s1 (Pr.refl _ _)
    obtain ⟨Gd, Y, w, hGd, hY⟩ := id src
    refine for_it (g := gg) (tb := fun D σ H => ∃ env, tS W Wx pr env (g env) D σ H) (D := D) w (fun i σ' H' => ∃ env' G' Fs', Sub G1 G' ∧ Sim W G' env' σ' H' Fs' ∧ qS W Wx pr (forL tgt g (ds.drop i) env') D G' σ' H' (All Fs')) ⟨e, G1, Fs1, fun _ _ h => h, S1, q1⟩ ?_ ?_ ?_
    · rintro i σ' H' hi' ⟨env', G', Fs', sb, S', _⟩
      exact hGd H' fun a o h => S'.le a o (sb a o h)
    · rintro i x σ' H' H2 hi' ⟨env', G', Fs', sb, S', q'⟩ hy
      obtain ⟨G2, d, hd, st, rd⟩ := hY i G' H' x H2 hi' sb S'.le S'.tb hy
      have hdr : ds.drop i = d :: ds.drop (i + 1) := by
        obtain ⟨h1, h2⟩ := List.getElem?_eq_some_iff.mp hd
        rw [List.drop_eq_getElem_cons h1, h2]
      rw [hdr] at q'
      unfold forL at q'
      have S2 : Sim W G2 env' σ' H2 Fs' := S'.step0 st
      have st' := st.all (Fs := Fs')
      cases e3 : tgt d env' with
      | none => rw [e3] at q'; exact q'.elim
      | some env1 =>
        rw [e3] at q'
        refine kg G2 env' env1 σ' H2 Fs' d x _ S2 rd e3 fun σ3 Fs3 S3 sub3 p3 => ?_
        have q3 := q'.step (st'.wide (fun _ h => h) fun a h => .inl (sub3 a h) : Step W G' H' (All Fs') G2 H2 (All Fs3)) p3
        refine ⟨env1, G2, Fs3, S3, ?_⟩
        have sb2 : Sub G1 G2 := fun a o h => st.g a o (sb a o h)
        dsimp only at q3
        cases e4 : g env1 with
        | stk => rw [e4] at q3; exact q3
        | nx e' => rw [e4] at q3; exact fun σ4 G4 H4 Fs4 s4 S4 p4 => ⟨e', G4, Fs4, fun a o h => s4.g a o (sb2 a o h), S4, q3.step s4 p4⟩
        | ct e' => rw [e4] at q3; exact fun σ4 G4 H4 Fs4 s4 S4 p4 => ⟨e', G4, Fs4, fun a o h => s4.g a o (sb2 a o h), S4, q3.step s4 p4⟩
        | bk e' => rw [e4] at q3; exact q3
        | rt d' e' => rw [e4] at q3; exact q3
        | exc c e' => rw [e4] at q3; exact q3
    · rintro σ' H' ⟨env', G', Fs', sb, S', q'⟩
      rw [List.drop_length] at q'
      exact q' σ' G' H' Fs' S'.refl S' (Pr.refl _ _)
end
end
end FD


set_option Elab.async false
set_option linter.all false
set_option maxRecDepth 100000
namespace FD
noncomputable section
open PySem PySem.Spec PyProof.Rows

set_option maxHeartbeats 1000000 in
theorem meets_enumerate_new1 {v : Value} {o : Obj} {H : Heap → Prop} (B : Begins v o H) :
    Meets (Builtin.«enumerate.__new__» ⟨[.type "enumerate", v], []⟩) (fun _ R s => H s.heap ∧
      R (.ok (.ret (.ref (s.heap.push o).objs.size))) { s with heap := (s.heap.push o).push { cls := .type "enumerate", data := .fields #[.none, .bool false, .ref s.heap.objs.size, rawInt 0, .none, .none] } }) :=
  .of_wp fun prog w A R s h => by
    obtain ⟨hp, g, d, tk, os⟩ := s; obtain ⟨h1, h⟩ := h
    have hsub := sub_enumerate
    have q1 : ∀ {A' : Around} {E : Value → Shared → Prop} {Q : Value → Shared → Prop}, Q (.ref hp.objs.size) ⟨hp.push o, g, d, tk, os⟩ → wpAny (model prog w) A' (pyIter v) Q E ⟨hp, g, d, tk, os⟩ :=
      fun q => B.iter prog w _ _ ⟨hp, g, d, tk, os⟩ _ h1 q
    wp_walk using q1
    refine wpAny_stack_any fun st => wpAny_pure ?_
    split
    · rename_i c _ _ _ _ _
      cases (c == Value.type "enumerate")
      · wp_walk using q1
        exact ⟨_, rfl, h⟩
      · wp_walk using q1
        exact ⟨_, rfl, h⟩
    · wp_walk using q1
      exact ⟨_, rfl, h⟩
section
variable {prog : Program} {w : World} {A : Around} {E : Value → Shared → Prop} {s : Shared}
theorem enum_begins1 {v : Value} {o : Obj} {H : Heap → Prop} {Q : Value → Shared → Prop} (B : Begins v o H) (h1 : H s.heap)
    (h : ∀ h', IsEnum h' (s.heap.objs.size + 1) s.heap.objs.size 0 .none → h'.get? s.heap.objs.size = some o → h'.objs.size = s.heap.objs.size + 2 →
      (∀ b o, s.heap.get? b = some o → h'.get? b = some o) → Q (.ref (s.heap.objs.size + 1)) { s with heap := h' }) :
    wpAny (model prog w) A (call (.type "enumerate") [v]) Q E s := by
  refine callType_new F.called_enumerate (by decide) (F.typeCall_enumerate_1 _) (F.newCall_enumerate_1 _) (fun obj => F.args_object_init_2 obj _) F.entry_enumerate_new
    (meets_enumerate_new1 B) ⟨h1, ?_⟩
  have hz : (s.heap.push o).objs.size = s.heap.objs.size + 1 := Heap.size_push ..
  show _ ∧ _
  rw [hz]
  have he : IsEnum ((s.heap.push o).push { cls := .type "enumerate", data := .fields #[.none, .bool false, .ref s.heap.objs.size, rawInt 0, .none, .none] }) (s.heap.objs.size + 1) s.heap.objs.size 0 .none := by
    have := Heap.get?_push_size (s.heap.push o) (o := { cls := .type "enumerate", data := .fields #[.none, .bool false, .ref s.heap.objs.size, rawInt 0, .none, .none] }) rfl
    rw [hz] at this; exact this
  refine ⟨⟨_, he, rfl⟩, h _ he (Heap.get?_push_of_some _ (Heap.get?_push_size _ B.free)) (by rw [Heap.size_push, hz]) fun b o x => Heap.get?_push_of_some _ (Heap.get?_push_of_some _ x)⟩
end
open L2
def Itet (K : PySem.W.Frag) (a : Addr) : It :=
  ⟨fun i H => ∃ (xs : List V) (x : V), SqT K H a xs ∧ xs[i]? = some x, fun i H v H' => ∃ T x, v = .ref T ∧ H T = none ∧ H' = upd H T (.tup [.int (i : Nat), x]) ∧ ∀ xs, SqT K H a xs → xs[i]? = some x, fun i H => ∃ xs : List V, SqT K H a xs ∧ xs.length ≤ i⟩
theorem turn_enumT {P : Program} {w : World} {K : PySem.W.Frag} {elts : List Expr} {kk : Nat} {tpos : Pos} (a e it : Addr) :
    Turn P w K (.Tuple elts kk tpos) (Itet K a) [e, it] e (fun i h => (∃ old, IsEnum h e it ((i : Nat) : Int) old) ∧ h.IsTupleIter it a i ∧ e ≠ it) where
  mem := by simp
  obj := fun i h st b hb => by
    obtain ⟨⟨old, he⟩, ⟨o, ho, hc, hd⟩, _⟩ := st
    have e' : b = e ∨ b = it := by simpa using hb
    rcases e' with z | z
    · rw [z]; exact ⟨_, he, fun v q => nomatch q⟩
    · rw [z]; exact ⟨o, ho, fun v q => by rw [hd] at q; cases q⟩
  keep := fun i h h' st k => let ⟨⟨old, he⟩, hi, hne⟩ := st; ⟨⟨old, k e (by simp) _ he⟩, hi.at fun o q => k it (by simp) o q, hne⟩
  item := by
    intro X hP hw hK hc i pins s σ H E I hf st hg
    subst hP hw hK
    obtain ⟨⟨old, he⟩, hit, hne⟩ := st
    obtain ⟨xs, x, hq, hx⟩ := hg
    obtain ⟨its, rv, p, hz⟩ := I.tuple hq
    obtain ⟨u, hu, ru⟩ := rv.get hx
    have hel : e < s.heap.objs.size := Heap.lt_size he
    have hil : it < s.heap.objs.size := by obtain ⟨_, q, _⟩ := hit; exact Heap.lt_size q
    have hpt : s.heap.IsTuple a its.toArray := p
    have hae : a ≠ e := by
      rintro rfl
      obtain ⟨o, ho, hc', _⟩ := hpt
      rw [he] at ho; cases ho; simp at hc'
    have hai : a ≠ it := by
      rintro rfl
      obtain ⟨o, ho, hc', _⟩ := hpt
      obtain ⟨o2, ho2, hc2, _⟩ := hit
      rw [ho2] at ho; cases ho; rw [hc2] at hc'; simp at hc'
    have hul := (List.getElem?_eq_some_iff.mp hu).1
    refine wpAny_pyNext_enum_itemD (Draws.tuple (A := X.A.in1) (I.ok.hd hc) it a hai its.toArray) he ⟨hit, hpt⟩ (by simpa using hul) hne (by simp [hne, Ne.symm hae]) fun x' h' tk hx' ho st' hT hsz hk => ?_
    have ex : x' = u := by
      have e1 : its.toArray[i]? = some x' := hx'
      have e2 : its.toArray[i]? = some u := by simpa using hu
      rw [e1] at e2
      exact Option.some.inj e2
    subst ex
    refine ⟨_, rfl, wpAny_letOwnedTupleGo_enum (s := { s with heap := h', toks := tk + 1 }) ho fun h'' he' sb => ?_⟩
    have hT2 : h''.get? s.heap.objs.size = some { cls := .type "tuple", data := .seq #[.int i tk, x'] } := (sb.2 _ (Nat.ne_of_gt hel)).trans hT
    have new : ObjOk X.prog X.w (upd H s.heap.objs.size (.tup [.int (i : Nat), x])) h'' s.heap.objs.size (.tup [.int (i : Nat), x]) :=
      ⟨by show 2 ≤ sizeLine; decide, [.int i tk, x'], .cons ⟨_, rfl⟩ (.cons ru .nil), ⟨_, hT2, rfl, _, rfl⟩⟩
    have I1 : Inv X pins σ (upd H s.heap.objs.size (.tup [.int (i : Nat), x])) { s with heap := h'', toks := tk + 1 } :=
      I.turnedNew (ch := [e, it]) (fun b ob hb q => (sb.2 b (fun z => hb (by simp [z]))).trans (hk b ob (fun z => hb (by simp [z])) (fun z => hb (by simp [z])) q)) hf (Nat.le_refl _) new
    refine ⟨.ref s.heap.objs.size, _, I1, rfl, ⟨_, x, rfl, I.hok.fresh (Nat.le_refl _), rfl, fun ys hy => by rw [I.tuple_inj hy hq]; exact hx⟩, ⟨⟨x', ?_⟩, st'.1.at fun o q => (sb.2 it (Ne.symm hne)).trans q, hne⟩, fun b hb => ?_⟩
    · have e1 : ((i + 1 : Nat) : Int) = (i : Int) + 1 := by omega
      rw [e1]; exact he'
    · have hb' : b < s.heap.objs.size := by
        have e' : b = e ∨ b = it := by simpa using hb
        rcases e' with z | z
        · rw [z]; exact hel
        · rw [z]; exact hil
      rw [upd_ne (Nat.ne_of_lt hb')]
      exact (hf b hb).1
  done := by
    intro X hP hw hK hc i pins s σ H E I hf st hg
    subst hP hw hK
    obtain ⟨⟨old, he⟩, hit, hne⟩ := st
    obtain ⟨xs, hq, hx⟩ := hg
    obtain ⟨its, rv, p, hz⟩ := I.tuple hq
    obtain ⟨f0, f1, f2, f3, f4, f5⟩ := hf it (by simp)
    have hl := rv.length
    have hpt : s.heap.IsTuple a its.toArray := p
    have hai : a ≠ it := by
      rintro rfl
      obtain ⟨o, ho, hc', _⟩ := hpt
      obtain ⟨o2, ho2, hc2, _⟩ := hit
      rw [ho2] at ho; cases ho; rw [hc2] at hc'; simp at hc'
    have hT : s.TypeIs (.ref e) "enumerate" := ⟨_, he, rfl⟩
    unfold pyNext
    refine wpAny_bind (wpAny_attempt (wpAny_callSpecial?_slot (name := Str.ofString "__next__") hT F.slot_enumerate_next
      (wpAny_call_entry F.slot_enumerate_next hT F.entry_enumerate_next ?_ (F.args_enumerate_next_1 _))))
    show wpAny _ _ (field (.ref e) 2 >>= _) _ _ _
    refine wpAny_bind (wpAny_field he rfl (x := .ref it) rfl ?_)
    refine wpAny_bind (wpAny_nextOf_tuple_end (I.ok.hd hc) hit hpt (by simp; omega) fun h' x he' hx' => ?_)
    obtain ⟨o, ho, hcc⟩ := hx'
    refine wpAny_bind (wpAny_isInstance (T := "StopIteration") (b := true) ⟨o, ho, hcc⟩ isSubtype_stop ?_)
    exact wpAny_pure ⟨rfl, I.turned (t' := s.toks) (fun b o hb q => he' b o hb q) f0 f1 f3 f4 f5⟩
  self := fun A i s Q E st h => let ⟨⟨_, he⟩, _⟩ := st; wpAny_pyIter_enum he h

def iSeq (K : PySem.W.Frag) (te : TE) : TI := fun σ H R => te σ H fun x H1 => ∃ a, x = .ref a ∧ (((∃ xs, SqL K H1 a xs) ∧ R (Itl K a) H1) ∨ ((∃ xs, SqT K H1 a xs) ∧ R (Itt K a) H1))
theorem pi_seq {X : Cx} {tg l : Expr} {tl : TE} (hl : PE X l tl) : PI X tg l (iSeq X.K tl) := by
  refine ⟨fun pins s σ H R I h => ?_⟩
  refine thn (hl.run pins s σ H _ I h) fun v s1 ⟨x, H1, I1, r1, q1⟩ => ?_
  obtain ⟨a, e, q1⟩ := q1
  subst e
  cases r1
  rcases q1 with ⟨⟨xs, hq⟩, q⟩ | ⟨⟨xs, hq⟩, q⟩
  · obtain ⟨its, rv, p, hz⟩ := I1.list hq
    refine wpAny_pyIter_list p.isList ?_
    refine ⟨s1.heap.objs.size, [s1.heap.objs.size], _, _, H1, rfl, I1.kept (t' := s1.toks) fun b o e => Heap.get?_push_of_some _ e, turn_list a _, ⟨_, Heap.get?_push_size _ rfl, rfl, rfl⟩, fun b hb => ?_, q⟩
    have e : b = s1.heap.objs.size := by simpa using hb
    subst e
    exact I1.fpOk (Nat.le_refl _) (I1.hok.fresh (Nat.le_refl _))
  · obtain ⟨its, rv, p, hz⟩ := I1.tuple hq
    refine wpAny_pyIter_tuple (show s1.heap.IsTuple a its.toArray from p) ?_
    refine ⟨s1.heap.objs.size, [s1.heap.objs.size], _, _, H1, rfl, I1.kept (t' := s1.toks) fun b o e => Heap.get?_push_of_some _ e, turn_tuple a _, ⟨_, Heap.get?_push_size _ rfl, rfl, rfl⟩, fun b hb => ?_, q⟩
    have e : b = s1.heap.objs.size := by simpa using hb
    subst e
    exact I1.fpOk (Nat.le_refl _) (I1.hok.fresh (Nat.le_refl _))
def iEnS (K : PySem.W.Frag) (te : TE) : TI := fun σ H R => te σ H fun x H1 => ∃ a, x = .ref a ∧ ((∃ xs, SqL K H1 a xs ∧ R (Ite K a) H1) ∨ (∃ xs, SqT K H1 a xs ∧ R (Itet K a) H1))
theorem pi_enS {X : Cx} {e : Expr} {te : TE} {p pos tpos : Pos} {elts : List Expr} {kk : Nat} (hg : Gl X "enumerate") (hm : X.mg "enumerate" = none) (he : PE X e te) (hs : starEach [e] X.env = [(false, eval e X.env)] := by rfl)
    (hs2 : starEach [e] X.env = (false, eval e X.env) :: starEach [] X.env := by rfl) :
    PI X (.Tuple elts kk tpos) (.Call (.Name "enumerate" p) [e] [] pos) (iEnS X.K te) := by
  have ha : PA X [e] (tCons te tNil) := pa_cons he pa_nil hs2
  refine ⟨fun pins s σ H R I h => ?_⟩
  have h2 : tCons te tNil σ H fun vs H1 => ∃ x a, vs = [x] ∧ x = .ref a ∧ ((∃ xs, SqL X.K H1 a xs ∧ R (Ite X.K a) H1) ∨ (∃ xs, SqT X.K H1 a xs ∧ R (Itet X.K a) H1)) := by
    have mono : ∀ (Q Q' : VK), (∀ v H, Q v H → Q' v H) → te σ H Q → te σ H Q' ∨ True := fun _ _ _ _ => .inr trivial
    show te σ H fun x H1 => ∃ y a, [x] = [y] ∧ y = .ref a ∧ _
    have e1 : (fun (x : V) (H1 : Hp) => ∃ y a, [x] = [y] ∧ y = .ref a ∧ ((∃ xs, SqL X.K H1 a xs ∧ R (Ite X.K a) H1) ∨ (∃ xs, SqT X.K H1 a xs ∧ R (Itet X.K a) H1))) =
        fun x H1 => ∃ a, x = .ref a ∧ ((∃ xs, SqL X.K H1 a xs ∧ R (Ite X.K a) H1) ∨ (∃ xs, SqT X.K H1 a xs ∧ R (Itet X.K a) H1)) := by
      funext x H1
      refine propext ⟨fun ⟨y, a, e, r⟩ => ?_, fun ⟨a, r⟩ => ⟨x, a, rfl, r⟩⟩
      cases e
      exact ⟨a, r⟩
    rw [e1]
    exact h
  refine Call_ (ld_blt I hg hm boot_enumerate (PyProof.Rows.callWith_type1 (thn (ha.run pos pins s σ H _ I h2) fun us s1 ⟨vs, H1, I1, r1, q1⟩ => ?_) hs rfl))
  obtain ⟨x, a, ex, ex2, q⟩ := q1
  subst ex ex2
  cases r1 with
  | cons r rr =>
    cases rr
    cases r
    have fin : ∀ (b : Addr), b ∈ [s1.heap.objs.size + 1, s1.heap.objs.size] → s1.heap.objs.size ≤ b := fun b hb => by
      have e' : b = s1.heap.objs.size + 1 ∨ b = s1.heap.objs.size := by simpa using hb
      rcases e' with z | z
      · rw [z]; exact Nat.le_add_right _ _
      · rw [z]; exact Nat.le_refl _
    rcases q with ⟨xs, hq, q⟩ | ⟨xs, hq, q⟩
    · obtain ⟨its, rv, p', hz⟩ := I1.list hq
      refine call_enumerate_list p'.isList fun h' he hit hsz hk => wpAny_pyIter_enum he ?_
      have I2 : Inv X pins σ H1 { s1 with heap := h' } := I1.kept (t' := s1.toks) hk
      exact ⟨s1.heap.objs.size + 1, [s1.heap.objs.size + 1, s1.heap.objs.size], _, _, H1, rfl, I2, turn_enum a (s1.heap.objs.size + 1) s1.heap.objs.size, ⟨⟨.none, he⟩, hit, Nat.succ_ne_self _⟩, fun b hb => I1.fpOk (fin b hb) (I1.hok.fresh (fin b hb)), q⟩
    · obtain ⟨its, rv, p', hz⟩ := I1.tuple hq
      have hpt : s1.heap.IsTuple a its.toArray := p'
      refine enum_begins1 (begins_tuple a its.toArray) hpt fun h' he hit hsz hk => wpAny_pyIter_enum he ?_
      have I2 : Inv X pins σ H1 { s1 with heap := h' } := I1.kept (t' := s1.toks) hk
      exact ⟨s1.heap.objs.size + 1, [s1.heap.objs.size + 1, s1.heap.objs.size], _, _, H1, rfl, I2, turn_enumT a (s1.heap.objs.size + 1) s1.heap.objs.size, ⟨⟨.none, he⟩, ⟨_, hit, rfl, rfl⟩, Nat.succ_ne_self _⟩, fun b hb => I1.fpOk (fin b hb) (I1.hok.fresh (fin b hb)), q⟩
end
end FD


set_option Elab.async false
set_option linter.all false
set_option maxRecDepth 100000
namespace FD
noncomputable section
open PySem PySem.Spec L2

section
variable {X : Cx} {W : Wd} {Wx : WX} {pr : List Nat} {G G' H H' : Hp} {env env' : En} {σ σ' : St} {Fs Fs' : Nat → Fp} {F F' : Fp}
def tJ (W : Wd) (Wx : WX) (env : En) (r : R Unit (List D)) : TI := fun σ H R => ∃ G Fs, Sim W G env σ H Fs ∧ match r with
  | .ok ds => ∀ J G' H', Step W G H Emp G' H' Emp → Src W J G' ds → R J H'
  | .exc c _ => ∀ G' H', Step W G H Emp G' H' Emp → Wx (.ref (W.C.cls c)) none σ H'
  | .stk => False
def SJ (X : Cx) (W : Wd) (Wx : WX) (tg : Expr) (f : En → R Unit (List D)) (iter : Expr) : Prop := ∀ env, PI X tg iter (tJ W Wx env (f env))
def iJ (f : En → R Unit (List D)) : En → R En (List D × En) := fun env => match f env with
  | .ok ds => .ok (ds, env)
  | .exc c _ => .exc c env
  | .stk => .stk
theorem SJ.si {tg iter : Expr} {f : En → R Unit (List D)} (h : SJ X W Wx tg f iter) : SI X W Wx tg (iJ f) iter := fun env => (h env).imp fun σ H R => by
  rintro ⟨G, Fs, S, q⟩
  refine ⟨G, Fs, S, ?_⟩
  unfold iJ at q
  cases e1 : f env with
  | ok ds => rw [e1] at q; exact fun J G' H' s src => q J G' H' Fs s.all (S.step0 s) src
  | exc c u => rw [e1] at q; exact fun G' H' s => q G' H' Fs s.all (S.step0 s)
  | stk => rw [e1] at q; exact q
def asSeq : D → Option (List D)
  | .lst xs => some xs
  | .tup _ xs => some xs
  | _ => none
def itD : O → Option (List D)
  | .sh d => asSeq d
  | _ => none
theorem src_seq {K : PySem.W.Frag} {d : D} {ds : List D} {v : V} (le : Sub G H) (r : RpD W.C G d v) (e : asSeq d = some ds) :
    ∃ p, v = .ref p ∧ (((∃ xs, SqL K H p xs) ∧ Src W (Itl K p) G ds) ∨ ((∃ xs, SqT K H p xs) ∧ Src W (Itt K p) G ds)) := by
  have go : ∀ {xs : List D} {vs : List V}, xs.length = vs.length → (∀ (i : Nat) (d : D) (v : V), xs[i]? = some d → vs[i]? = some v → RpD W.C G d v) → ∀ (i : Nat) (G' H' : Hp) (x : V) (H2 : Hp), i < xs.length → Sub G G' → Sub G' H' → TabOk W G' H' → YAt vs i H' x H2 →
      ∃ G2 d, xs[i]? = some d ∧ Step W G' H' Emp G2 H2 Emp ∧ RpD W.C G2 d x := by
    intro xs vs l h i G' H' x H2 hi s1 s2 tb y
    obtain ⟨rfl, hx⟩ := y
    exact ⟨G', xs[i], List.getElem?_eq_getElem hi, Step.refl s2 tb, (h i _ x (List.getElem?_eq_getElem hi) hx).sub s1⟩
  cases r with
  | lst h l k =>
    cases e
    refine ⟨_, rfl, .inl ⟨⟨_, SqL.of (le _ _ h)⟩, _, _, by rw [l]; exact walk_list, fun H' s => SqL.of (s _ _ h), go l k⟩⟩
  | @tup m xs p vs h l k =>
    cases e
    refine ⟨_, rfl, .inr ⟨⟨_, .inl (Rd.sub le h.rd)⟩, fun H' => SqT K H' p vs, YAt vs, by rw [l]; exact walk_tup, fun H' s => .inl (Rd.sub s h.rd), go l k⟩⟩
  | _ => cases e
def jSeq (f : En → RP) : En → R Unit (List D) := fun env => (f env).bind fun x => ofO (itD x)
theorem SJ_seq {tg e : Expr} {f : En → RP} (h : SP X W Wx f e) : SJ X W Wx tg (jSeq f) e := fun env => (pi_seq (h env)).imp fun σ H R => by
  rintro ⟨G, Fs, S, q⟩
  refine ⟨G, Fs, S, ?_⟩
  unfold jSeq at q
  cases e1 : f env with
  | stk => rw [e1] at q; exact q
  | exc c u => rw [e1] at q; exact q
  | ok x =>
    rw [e1, bind_ok] at q
    intro v G1 H1 F1 s1 r1
    cases x with
    | sh d =>
      cases e2 : asSeq d with
      | none => rw [show itD (.sh d) = none from e2] at q; exact q.elim
      | some ds =>
        rw [show itD (.sh d) = some ds from e2] at q
        obtain ⟨p, rfl, h⟩ := src_seq (K := X.K) (H := H1) s1.le (rp_sh r1) e2
        refine ⟨p, rfl, ?_⟩
        rcases h with ⟨h1, h2⟩ | ⟨h1, h2⟩
        · exact .inl ⟨h1, q _ G1 H1 s1 h2⟩
        · exact .inr ⟨h1, q _ G1 H1 s1 h2⟩
    | _ => exact q.elim
def enumD (ds : List D) : List D := ds.mapIdx fun i d => .tup false [.int (i : Nat), d]
theorem enumD_length (ds : List D) : (enumD ds).length = ds.length := by unfold enumD; rw [List.length_mapIdx]
theorem enumD_get {ds : List D} {i : Nat} {d : D} (h : ds[i]? = some d) : (enumD ds)[i]? = some (.tup false [.int (i : Nat), d]) := by
  unfold enumD; rw [List.getElem?_mapIdx, h]; rfl
theorem src_enum {K : PySem.W.Frag} {d : D} {ds : List D} {v : V} (le : Sub G H) (r : RpD W.C G d v) (e : asSeq d = some ds) :
    ∃ p, v = .ref p ∧ ((∃ xs, SqL K H p xs ∧ Src W (Ite K p) G (enumD ds)) ∨ (∃ xs, SqT K H p xs ∧ Src W (Itet K p) G (enumD ds))) := by
  have go : ∀ {xs : List D} {vs : List V}, xs.length = vs.length → (∀ (i : Nat) (d : D) (v : V), xs[i]? = some d → vs[i]? = some v → RpD W.C G d v) → ∀ (i : Nat) (G' H' : Hp) (x : V) (H2 : Hp), i < (enumD xs).length → Sub G G' → Sub G' H' → TabOk W G' H' →
      (∃ T y, x = .ref T ∧ H' T = none ∧ H2 = upd H' T (.tup [.int (i : Nat), y]) ∧ vs[i]? = some y) → ∃ G2 d, (enumD xs)[i]? = some d ∧ Step W G' H' Emp G2 H2 Emp ∧ RpD W.C G2 d x := by
    intro xs vs l h i G' H' x H2 hi s1 s2 tb y
    obtain ⟨T, y, rfl, hT, rfl, hy⟩ := y
    rw [enumD_length] at hi
    have r1 := (h i _ y (List.getElem?_eq_getElem hi) hy).sub s1
    have hg : G' T = none := none_of_le s2 hT
    refine ⟨_, _, enumD_get (List.getElem?_eq_getElem hi), step_sh s2 tb hT, RpDs.tup (upd_same) ?_⟩
    exact .cons (.int _) (.cons (r1.sub (sub_upd hg)) .nil)
  cases r with
  | lst h l k =>
    cases e
    refine ⟨_, rfl, .inl ⟨_, SqL.of (le _ _ h), _, _, by rw [enumD_length, l]; exact walk_enum, fun H' s => SqL.of (s _ _ h), fun i G' H' x H2 hi s1 s2 tb y => go l k i G' H' x H2 hi s1 s2 tb ?_⟩⟩
    obtain ⟨T, x', y, h1, h2, h3, h4, h5⟩ := y
    cases h4
    exact ⟨T, y, h1, h2, h3, h5⟩
  | @tup m xs p vs h l k =>
    cases e
    refine ⟨_, rfl, .inr ⟨_, .inl (Rd.sub le h.rd), fun H' => SqT K H' p vs, fun i H v H' => ∃ T x, v = .ref T ∧ H T = none ∧ H' = upd H T (.tup [.int (i : Nat), x]) ∧ vs[i]? = some x, ⟨fun i H' hi q => ?_, fun H' q => ?_, fun i H' x H2 hi q y => ?_⟩, fun H' s => .inl (Rd.sub s h.rd), fun i G' H' x H2 hi s1 s2 tb y => go l k i G' H' x H2 hi s1 s2 tb ?_⟩⟩
    · rw [enumD_length, l] at hi
      exact ⟨vs, vs[i], q, List.getElem?_eq_getElem hi⟩
    · rw [enumD_length, l]
      exact ⟨vs, q, Nat.le_refl _⟩
    · obtain ⟨T, x', h1, h2, h3, h4⟩ := y
      exact ⟨T, x', h1, h2, h3, h4 vs q⟩
    · exact y
  | _ => cases e
def jEnum (f : En → RP) : En → R Unit (List D) := fun env => (f env).bind fun x => ofO ((itD x).map enumD)
theorem SJ_enum {e : Expr} {f : En → RP} {p pos tpos : Pos} {elts : List Expr} {kk : Nat} (hg : Gl X "enumerate") (hm : X.mg "enumerate" = none) (h : SP X W Wx f e) (hs : starEach [e] X.env = [(false, eval e X.env)] := by rfl)
    (hs2 : starEach [e] X.env = (false, eval e X.env) :: starEach [] X.env := by rfl) : SJ X W Wx (.Tuple elts kk tpos) (jEnum f) (.Call (.Name "enumerate" p) [e] [] pos) := fun env => (pi_enS hg hm (h env) hs hs2).imp fun σ H R => by
  rintro ⟨G, Fs, S, q⟩
  refine ⟨G, Fs, S, ?_⟩
  unfold jEnum at q
  cases e1 : f env with
  | stk => rw [e1] at q; exact q
  | exc c u => rw [e1] at q; exact q
  | ok x =>
    rw [e1, bind_ok] at q
    intro v G1 H1 F1 s1 r1
    cases x with
    | sh d =>
      cases e2 : asSeq d with
      | none => rw [show itD (.sh d) = none from e2] at q; exact q.elim
      | some ds =>
        rw [show itD (.sh d) = some ds from e2] at q
        obtain ⟨p, rfl, h⟩ := src_enum (K := X.K) (H := H1) s1.le (rp_sh r1) e2
        refine ⟨p, rfl, ?_⟩
        rcases h with ⟨xs, h1, h2⟩ | ⟨xs, h1, h2⟩
        · exact .inl ⟨xs, h1, q _ G1 H1 s1 h2⟩
        · exact .inr ⟨xs, h1, q _ G1 H1 s1 h2⟩
    | _ => exact q.elim
def rngD (a b : Int) : List D := (List.range (b - a).toNat).map fun (i : Nat) => D.int (a + (i : Nat))
theorem src_range {a b : Int} : Src W (Itr a (b - a).toNat) G (rngD a b) := by
  have hl : (rngD a b).length = (b - a).toNat := by unfold rngD; rw [List.length_map, List.length_range]
  refine ⟨_, _, by rw [hl]; exact walk_range, fun _ _ => trivial, fun i G' H' x H2 hi s1 s2 tb y => ?_⟩
  obtain ⟨rfl, rfl⟩ := y
  rw [hl] at hi
  refine ⟨G', .int (a + (i : Nat)), ?_, Step.refl s2 tb, .int _⟩
  unfold rngD
  rw [List.getElem?_map, List.getElem?_range hi]; rfl
def jRange1 (f : En → RP) : En → R Unit (List D) := fun env => (f env).bind fun x => ofO ((asI x).bind fun j => if okI j then some (rngD 0 j) else none)
theorem SJ_range1 {tg e : Expr} {f : En → RP} {p pos : Pos} (hg : Gl X "range") (hm : X.mg "range" = none) (h : SP X W Wx f e) (hs : starEach [e] X.env = [(false, eval e X.env)] := by rfl)
    (hs2 : starEach [e] X.env = (false, eval e X.env) :: starEach [] X.env := by rfl) : SJ X W Wx tg (jRange1 f) (.Call (.Name "range" p) [e] [] pos) := fun env => (pi_range1 hg hm (pa_cons (h env) pa_nil hs2) hs).imp fun σ H R => by
  rintro ⟨G, Fs, S, q⟩
  refine ⟨G, Fs, S, ?_⟩
  unfold jRange1 at q
  cases e1 : f env with
  | stk => rw [e1] at q; exact q
  | exc c u => rw [e1] at q; exact q
  | ok x =>
    rw [e1, bind_ok] at q
    intro v G1 H1 F1 s1 r1
    cases e2 : asI x with
    | none => rw [e2] at q; exact q.elim
    | some j =>
      rw [e2, Option.bind_some] at q
      rw [asI_some e2] at r1
      cases hk : okI j with
      | false => rw [hk, if_neg (by decide)] at q; exact q.elim
      | true =>
        rw [hk, if_pos rfl] at q
        obtain ⟨h1, h2⟩ := okI_ok hk
        refine ⟨j, by rw [rp_int r1], h1, h2, ?_⟩
        have := q (Itr 0 j.toNat) G1 H1 s1 (by have := src_range (W := W) (G := G1) (a := 0) (b := j); rwa [Int.sub_zero] at this)
        exact this
def jRange2 (f g : En → RP) : En → R Unit (List D) := fun env => (f env).bind fun x => (g env).bind fun y => ofO ((asI x).bind fun i => (asI y).bind fun j => if okI i && okI j then some (rngD i j) else none)
def SrcK (W : Wd) (J : It) (G Kp : Hp) (ds : List D) : Prop := ∃ (Gd : Hp → Prop) (Y : Nat → Hp → V → Hp → Prop), Walk J ds.length Gd Y ∧ (∀ H, Sub G H → Sub Kp H → Gd H) ∧
  ∀ (i : Nat) (G' H' : Hp) (x : V) (H2 : Hp), i < ds.length → Sub G G' → Sub G' H' → TabOk W G' H' → Y i H' x H2 → ∃ G2 d, ds[i]? = some d ∧ Step W G' H' Emp G2 H2 Emp ∧ RpD W.C G2 d x
theorem Src.k {J : It} {ds : List D} (h : Src W J G ds) : SrcK W J G (fun _ => none) ds := by
  obtain ⟨Gd, Y, w, h1, h2⟩ := h
  exact ⟨Gd, Y, w, fun H s _ => h1 H s, h2⟩
def tJk (W : Wd) (Wx : WX) (env : En) (r : R Unit (List D)) : TI := fun σ H R => ∃ G Fs, Sim W G env σ H Fs ∧ match r with
  | .ok ds => ∀ J G' H' Kp, Step W G H Emp G' H' Emp → Sub Kp H' → (∀ a o, Kp a = some o → NT o) → SrcK W J G' Kp ds → R J H'
  | .exc c _ => ∀ G' H', Step W G H Emp G' H' Emp → Wx (.ref (W.C.cls c)) none σ H'
  | .stk => False
def SJk (X : Cx) (W : Wd) (Wx : WX) (tg : Expr) (f : En → R Unit (List D)) (iter : Expr) : Prop := ∀ env, PI X tg iter (tJk W Wx env (f env))
theorem SJ.k {tg iter : Expr} {f : En → R Unit (List D)} (h : SJ X W Wx tg f iter) : SJk X W Wx tg f iter := fun env => (h env).imp fun σ H R => by
  rintro ⟨G, Fs, S, q⟩
  refine ⟨G, Fs, S, ?_⟩
  cases e1 : f env with
  | ok ds => rw [e1] at q; exact fun J G' H' s src => q J G' H' (fun _ => none) s (fun _ _ h => by cases h) (fun _ _ h => by cases h) src.k
  | exc c u => rw [e1] at q; exact q
  | stk => rw [e1] at q; exact q
end
end
end FD


set_option Elab.async false
set_option linter.all false
set_option maxRecDepth 100000
namespace FD
noncomputable section
open PySem PySem.Spec L2

def WxF : WX := fun _ _ _ _ => False
abbrev Bk (X : Cx) (scope : Scope) (p : Cx → Prop) : Prop := ∀ (s : Shared) (H : Hp) (C : Addr) (cl : List (Str × Addr)) (fp : List Addr), p (X.blk s H scope (compEnvC scope cl C X.env) fp)
def wipeE (env : En) : List Nat → En
  | [] => env
  | v :: vs => (wipeE env vs).set v none
def shOf : Option O → Option O
  | some (.sh d) => some (.sh d)
  | _ => none
def restE (env0 env : En) : List Nat → En
  | [] => env
  | v :: vs => (restE env0 env vs).set v (shOf (gt env0 v))
section
variable {X : Cx} {W : Wd} {Wx : WX} {pr : List Nat} {G G' H H' : Hp} {env env' : En} {σ σ' : St} {Fs Fs' : Nat → Fp} {F F' : Fp}
theorem Sim.setN (S : Sim W G env σ H Fs) (i : Nat) : Sim W G (env.set i none) σ H Fs where
  le := S.le
  len := by rw [List.length_set]; exact S.len
  rp := fun j d e => by
    by_cases h : i = j
    · subst h
      have hl : i < env.length := by
        have h1 := (List.getElem?_eq_some_iff.mp e).1
        rw [List.length_set] at h1
        exact h1
      rw [List.getElem?_set_self hl] at e
      cases e
    · rw [List.getElem?_set_ne h] at e
      exact S.rp j d e
  dj := S.dj
  ow := S.ow
  tb := S.tb
theorem Sim.setS (S : Sim W G env σ H Fs) (i : Nat) (v : Option V) (h : gt env i = none) : Sim W G env (σ.set i v) H Fs where
  le := S.le
  len := by rw [List.length_set]; exact S.len
  rp := fun j d e => by
    by_cases hj : i = j
    · subst hj
      unfold gt at h
      rw [e] at h
      cases h
    · obtain ⟨w, h1, h2⟩ := S.rp j d e
      exact ⟨w, by rw [List.getElem?_set_ne hj]; exact h1, h2⟩
  dj := S.dj
  ow := S.ow
  tb := S.tb
theorem gt_setN (env : En) (i : Nat) : gt (env.set i none) i = none := by
  unfold gt
  by_cases h : i < env.length
  · rw [List.getElem?_set_self h]
  · rw [List.getElem?_eq_none (by rw [List.length_set]; omega)]
theorem Sim.wipe (S : Sim W G env σ H Fs) : ∀ vs : List Nat, Sim W G (wipeE env vs) (L2.wipe σ vs) H Fs
  | [] => S
  | v :: vs => ((S.wipe vs).setN v).setS v none (gt_setN _ v)
theorem Sim.rest {env0 : En} {σ0 : St} {G0 H0 : Hp} {Fs0 : Nat → Fp} (S0 : Sim W G0 env0 σ0 H0 Fs0) (sg : Sub G0 G) : ∀ {vs : List Nat} {env : En} {Fs : Nat → Fp}, Sim W G env (L2.wipe σ0 vs) H Fs → ∃ Fs', Sim W G (restE env0 env vs) σ0 H Fs' ∧ (∀ a, All Fs' a → All Fs a)
  | [], env, Fs, S => ⟨Fs, S, fun _ h => h⟩
  | v :: vs, env, Fs, S => by
    have hn : ∀ u d, (env.set v none)[u]? = some (some d) → u ≠ v ∧ env[u]? = some (some d) := fun u d e => by
      by_cases h : v = u
      · subst h
        have hl : v < env.length := by
          have h1 := (List.getElem?_eq_some_iff.mp e).1
          rw [List.length_set] at h1
          exact h1
        rw [List.getElem?_set_self hl] at e
        cases e
      · rw [List.getElem?_set_ne h] at e
        exact ⟨fun q => h q.symm, e⟩
    have S1 : Sim W G (env.set v none) (L2.wipe σ0 vs) H Fs := ⟨S.le, by
      have := S.len
      rw [wipe_length] at this ⊢
      rw [List.length_set]; exact this, fun u d e => by
      obtain ⟨h1, h2⟩ := hn u d e
      obtain ⟨w, h3, h4⟩ := S.rp u d h2
      refine ⟨w, ?_, h4⟩
      have : L2.wipe σ0 (v :: vs) = (L2.wipe σ0 vs).set v none := rfl
      rw [this, List.getElem?_set_ne (Ne.symm h1)] at h3
      exact h3, S.dj, S.ow, S.tb⟩
    obtain ⟨Fs2, S2, sub⟩ := Sim.rest S0 sg S1
    have e : restE env0 env (v :: vs) = (restE env0 env vs).set v (shOf (gt env0 v)) := rfl
    have hc : ∀ (vs : List Nat) (env : En), (restE env0 (env.set v none) vs).set v (shOf (gt env0 v)) = (restE env0 env vs).set v (shOf (gt env0 v)) := by
      intro vs
      induction vs with
      | nil => intro env; show (env.set v none).set v _ = env.set v _; rw [List.set_set]
      | cons u us ih =>
        intro env
        show ((restE env0 (env.set v none) us).set u _).set v _ = ((restE env0 env us).set u _).set v _
        by_cases h : u = v
        · subst h
          rw [List.set_set, List.set_set]; exact ih env
        · rw [List.set_comm _ _ h, List.set_comm _ _ h, ih env]
    rw [e, ← hc]
    cases hs : shOf (gt env0 v) with
    | none => exact ⟨Fs2, S2.setN v, sub⟩
    | some x =>
      cases hg : gt env0 v with
      | none => rw [hg] at hs; cases hs
      | some y =>
        rw [hg] at hs
        cases y with
        | sh d =>
          cases hs
          obtain ⟨w, h1, h2⟩ := S0.rp v _ (gt_some hg)
          have r : RpO W.C G H (.sh d) w Emp := .sh ((rp_sh h2).sub sg) fun _ h => h
          have S3 := S2.set (i := v) r fun _ _ h => h.elim
          have es : σ0.set v (some w) = σ0 := by
            apply List.ext_getElem?
            intro j
            by_cases hj : v = j
            · subst hj
              rw [List.getElem?_set_self (List.getElem?_eq_some_iff.mp h1).1, h1]
            · rw [List.getElem?_set_ne hj]
          rw [es] at S3
          refine ⟨_, S3, fun a h => ?_⟩
          rcases all_set a h with h | h
          · exact h.elim
          · exact sub a h
        | _ => cases hs

theorem PTs_nil {Wx : WX} : ∀ env, PTs X [] (tT W Wx env ((fun _ => .ok true : En → RB) env)) := fun env => ⟨fun pins s σ H Q I q => pts_nil.run pins s σ H Q I (by
  obtain ⟨G, Fs, S, q⟩ := q
  exact q G H S.refl)⟩
def STs (X : Cx) (W : Wd) (Wx : WX) (f : En → RB) (es : List Expr) : Prop := ∀ env, PTs X es (tT W Wx env (f env))
def SUs (X : Cx) (W : Wd) (Wx : WX) (f : En → R En (Bool × En)) (es : List Expr) : Prop := ∀ env, PTs X es (tU W Wx env (f env))
def bYes : En → RB := fun _ => .ok true
def uYes : En → R En (Bool × En) := fun env => .ok (true, env)
theorem STs_nil : STs X W Wx bYes [] := fun env => PTs_nil env
theorem STs_one {f : En → RB} {c : Expr} (h : ST X W Wx f c) : STs X W Wx f [c] := fun env => pts_one (h env)
theorem SUs_nil : SUs X W Wx uYes [] := fun env => ⟨fun pins s σ H Q I q => pts_nil.run pins s σ H Q I (by
  obtain ⟨G, Fs, S, q⟩ := q
  exact q G H Fs S.refl S)⟩
theorem PTs_any {α : Type} {es : List Expr} {t : α → TT} (h : ∀ a, PTs X es (t a)) : PTs X es (fun σ H Q => ∃ a, t a σ H Q) := ⟨fun pins s σ H Q I ⟨a, q⟩ => (h a).run pins s σ H Q I q⟩
theorem PE_any {α : Type} {e : Expr} {t : α → TE} (h : ∀ a, PE X e (t a)) : PE X e (fun σ H Q => ∃ a, t a σ H Q) := ⟨fun pins s σ H Q I ⟨a, q⟩ => (h a).run pins s σ H Q I q⟩

def outs (vs : List Nat) (n : Nat) : List Nat := (List.range n).filter fun i => !vs.contains i
theorem wipe_of {vs : List Nat} {σ σ' : St} (h : Pr (outs vs σ.length) (wipe σ vs) σ') : wipe σ' vs = wipe σ vs := by
  have hl : σ'.length = σ.length := by rw [h.1, wipe_length]
  apply List.ext_getElem?
  intro j
  by_cases hj : j ∈ vs
  · have key : ∀ (vs : List Nat) (σ : St), j ∈ vs → j < σ.length → (wipe σ vs)[j]? = some none := by
      intro vs
      induction vs with
      | nil => intro σ h; simp at h
      | cons u us ih =>
        intro σ h hl
        show ((wipe σ us).set u none)[j]? = _
        by_cases hu : u = j
        · subst hu
          rw [List.getElem?_set_self (by rw [wipe_length]; exact hl)]
        · rw [List.getElem?_set_ne hu]
          rcases List.mem_cons.mp h with e | e
          · exact absurd e.symm hu
          · exact ih σ e hl
    by_cases hl2 : j < σ.length
    · rw [key vs σ hj hl2, key vs σ' hj (by rw [hl]; exact hl2)]
    · rw [List.getElem?_eq_none (by rw [wipe_length, hl]; omega), List.getElem?_eq_none (by rw [wipe_length]; omega)]
  · rw [wipe_out hj, wipe_out hj]
    by_cases hl2 : j < σ.length
    · have := h.2 j (by unfold outs; rw [List.mem_filter]; exact ⟨List.mem_range.mpr hl2, by simpa using hj⟩)
      rw [this, wipe_out hj]
    · rw [List.getElem?_eq_none (by rw [hl]; omega), List.getElem?_eq_none (by omega)]

structure Acc (W : Wd) (G H : Hp) (acc : List O) (D : Addr) (F : Fp) : Prop where
  rp : RpO W.C G H (.lst acc) (.ref D) F
theorem acc_new (le : Sub G H) (b : TabOk W G H) {p : Addr} (hp : H p = none) : Step W G H Emp G (upd H p (.lst [])) (fun a => a = p) ∧ RpO W.C G (upd H p (.lst [])) (.lst []) (.ref p) (fun a => a = p) :=
  ⟨step_own le b hp, RpDs.own (xs := []) (none_of_le le hp) upd_same .nil⟩
theorem acc_push {acc : List O} {p : Addr} {F F1 : Fp} {x : O} {v : V} (r : RpO W.C G H (.lst acc) (.ref p) F) (r1 : RpO W.C G H x v F1) (le : Sub G H) (b : TabOk W G H) (dj : ∀ a, F1 a → ¬ F a) :
    ∃ vs, H p = some (.lst vs) ∧ vs.length = acc.length ∧ Step W G H (fun a => F a ∨ F1 a) G (upd H p (.lst (vs ++ [v]))) (fun a => F a ∨ F1 a) ∧ RpO W.C G (upd H p (.lst (vs ++ [v]))) (.lst (acc ++ [x])) (.ref p) (fun a => F a ∨ F1 a) := by
  have own1 := r1.own
  have own := r.own
  cases r with
  | @lst _ _ vs _ Fa g h l k dja ba hF =>
    have hpF : F p := (hF p).mpr (.inl rfl)
    have n1 : ¬ F1 p := fun h1 => dj p h1 hpF
    have keep : ∀ {y : O} {u : V} {F2 : Fp}, RpO W.C G H y u F2 → ¬ F2 p → RpO W.C G (upd H p (.lst (vs ++ [v]))) y u F2 := fun r2 n2 => r2.keep (fun _ _ h => h) fun a ha => ⟨(r2.own a ha).1, upd_ne fun e => n2 (e ▸ ha)⟩
    refine ⟨vs, h, l.symm, ⟨fun _ _ h => h, fun a o ha nf _ => ?_, fun a ha => ?_, fun a ha => .inl ha, fun a ha => .inl ha, fun a o ha => ?_, b.wr h True.intro⟩, ?_⟩
    · rw [upd_ne fun (e : a = p) => nf (.inl (by rw [e]; exact hpF))]; exact ha
    · by_cases e : a = p
      · subst e; rw [upd_same]; simp
      · rw [upd_ne e]; exact ha
    · rw [upd_ne fun e => by rw [e, g] at ha; cases ha]; exact le a o ha
    · refine .lst (fun i => if i = acc.length then F1 else Fa i) g upd_same (by simp [l]) (fun i d u e1 e2 => ?_) (fun i j a hij h1 h2 => ?_) (fun i a h1 => ?_) (fun a => ⟨fun h => ?_, fun h => ?_⟩)
      · by_cases hi : i = acc.length
        · subst hi
          rw [List.getElem?_concat_length] at e1
          rw [l, List.getElem?_concat_length] at e2
          cases e1; cases e2
          rw [if_pos rfl]
          exact keep r1 n1
        · rw [if_neg hi]
          have hlt : i < acc.length := by
            have := (List.getElem?_eq_some_iff.mp e1).1
            rw [List.length_append, List.length_singleton] at this
            omega
          rw [List.getElem?_append_left hlt] at e1
          rw [List.getElem?_append_left (by rw [← l]; exact hlt)] at e2
          exact keep (k i d u e1 e2) fun q => (ba i p q).2 rfl
      · by_cases hi : i = acc.length
        · by_cases hj : j = acc.length
          · exact hij (hi.trans hj.symm)
          · simp only [hi, hj, if_true, if_false] at h1 h2
            exact dj a h1 ((hF a).mpr (.inr ⟨j, h2⟩))
        · by_cases hj : j = acc.length
          · simp only [hi, hj, if_true, if_false] at h1 h2
            exact dj a h2 ((hF a).mpr (.inr ⟨i, h1⟩))
          · simp only [hi, hj, if_false] at h1 h2
            exact dja i j a hij h1 h2
      · by_cases hi : i = acc.length
        · simp only [hi, if_true] at h1
          refine ⟨by rw [hi, List.length_append, List.length_singleton]; omega, fun e => n1 (e ▸ h1)⟩
        · simp only [hi, if_false] at h1
          obtain ⟨q1, q2⟩ := ba i a h1
          exact ⟨by rw [List.length_append, List.length_singleton]; omega, q2⟩
      · rcases h with h | h
        · rcases (hF a).mp h with h | ⟨i, h⟩
          · exact .inl h
          · refine .inr ⟨i, ?_⟩
            have hi := (ba i a h).1
            simp only [Nat.ne_of_lt hi, if_false]
            exact h
        · exact .inr ⟨acc.length, by simp only [if_true]; exact h⟩
      · rcases h with h | ⟨i, h⟩
        · exact .inl ((hF a).mpr (.inl h))
        · by_cases hi : i = acc.length
          · simp only [hi, if_true] at h
            exact .inr h
          · simp only [hi, if_false] at h
            exact .inl ((hF a).mpr (.inr ⟨i, h⟩))

theorem _root_.L2.PE.imp' {X : Cx} {e : Expr} {t t' : TE} (h : PE X e t) (hi : ∀ pins s σ H Q, Inv X pins σ H s → t' σ H Q → t σ H Q) : PE X e t' := ⟨fun pins s σ H Q I q => h.run pins s σ H Q I (hi pins s σ H Q I q)⟩
def lcP (tgt : D → En → Option En) (tt : En → RB) (elt : En → RP) (env : En) : List D → List O → RP
  | [], acc => .ok (.lst acc)
  | d :: ds, acc => match tgt d env with
    | none => .stk
    | some e1 => match tt e1 with
      | .ok true => match elt e1 with
        | .ok x => lcP tgt tt elt env ds (acc ++ [x])
        | _ => .stk
      | .ok false => lcP tgt tt elt env ds acc
      | _ => .stk
def szOk (n : Nat) : Bool := decide (n ≤ lim)
theorem szOk_sz {n : Nat} (h : szOk n = true) : n ≤ sizeLine := lim_le (of_decide_eq_true h)
def bLc (vs : List Nat) (it : En → R Unit (List D)) (tgt : D → En → Option En) (tt : En → RB) (elt : En → RP) : En → RP := fun env => (it env).bind fun ds => if szOk ds.length then lcP tgt tt elt (wipeE env vs) ds [] else .stk
def tG (W : Wd) (pr : List Nat) (tgt : D → En → Option En) : TG := fun v σ H Q => ∃ G env env' Fs d, Sim W G env σ H Fs ∧ RpD W.C G d v ∧ tgt d env = some env' ∧ ∀ σ' Fs', Sim W G env' σ' H Fs' → (∀ a, All Fs' a → All Fs a) → Pr pr σ σ' → Q σ' H
theorem SG.pg {tgt : D → En → Option En} {tg : Expr} (h : SG X W pr tgt tg) : PG X tg (tG W pr tgt) := by
  obtain ⟨g, p, k⟩ := h
  refine ⟨fun pins s σ H v u Q I r q => ?_⟩
  obtain ⟨G, env, env', Fs, d, S, rd, e, q⟩ := q
  exact p.run pins s σ H v u Q I r (k G env env' σ H Fs d v Q S rd e q)
theorem lcP_core {n : Nat} {vs : List Nat} {Q : VK} {it : En → R Unit (List D)} {tgt : D → En → Option En} {tt : En → RB} {el : En → RP} (hlen : σ.length = n) (q : tV W Wx env (bLc vs it tgt tt el env) σ H Q) :
    tLc (tJk W Wx env (it env)) (tG W (outs vs n) tgt) (fun σ H Q => ∃ a, tT W WxF a (tt a) σ H Q) (fun σ H Q => ∃ a, tV W WxF a (el a) σ H Q) vs σ H Q := by
  obtain ⟨G, Fs, S, q⟩ := q
  refine ⟨G, Fs, S, ?_⟩
  unfold bLc at q
  cases e1 : it env with
  | stk => rw [e1] at q; exact q
  | exc c u => rw [e1] at q; exact q
  | ok ds =>
    rw [e1, bind_ok] at q
    intro J G1 H1 Kp s1 kp nt src D hD
    cases hz : szOk ds.length with
    | false => rw [hz, if_neg (by decide)] at q; exact q.elim
    | true =>
    rw [hz, if_pos rfl] at q
    have hz : ds.length ≤ sizeLine := szOk_sz hz
    generalize hZ : lcP tgt tt el (wipeE env vs) ds [] = Z at q
    obtain ⟨Gd, Y, w, hGd, hY⟩ := id src
    obtain ⟨sA, rA⟩ := acc_new s1.le s1.b hD
    have S1 := S.step0 s1
    refine lc_it (g := tG W (outs vs n) tgt) (tt := fun σ H Q => ∃ a, tT W WxF a (tt a) σ H Q) (te := fun σ H Q => ∃ a, tV W WxF a (el a) σ H Q) (vs := vs) (σ := σ) (H1 := H1) (D := D) (Qd := fun H => Q (.ref D) H) w (fun i H' => ∃ G2 acc FD, Sim W G2 (wipeE env vs) (wipe σ vs) H' Fs ∧ Sub G1 G2 ∧ RpO W.C G2 H' (.lst acc) (.ref D) FD ∧ acc.length ≤ i ∧ (∀ j a, Fs j a → ¬ FD a) ∧ Step W G1 H1 Emp G2 H' FD ∧ Sub Kp H' ∧
      Z = lcP tgt tt el (wipeE env vs) (ds.drop i) acc) ?_ ?_ ?_ ?_
    · refine ⟨G1, [], fun a => a = D, (S1.step0 sA).wipe _, fun _ _ h => h, rA, Nat.le_refl _, fun j a h e => ?_, sA, fun a o h => sA.h a o (kp a o h) (fun h => h) (nt a o h), hZ.symm⟩
      obtain ⟨_, o, h2, _⟩ := S1.ow j a h
      rw [e, hD] at h2; cases h2
    · rintro i H' hi' ⟨G2, acc, FD, S2, sb, _, _, _, _, kp', _⟩
      exact hGd H' (fun a o h => S2.le a o (sb a o h)) kp'
    · rintro i x H' H2 hi' ⟨G2, acc, FD, S2, sb, rD, hl, dj, st, kp', eq⟩ hy
      obtain ⟨G3, d, hd, st3, rd⟩ := hY i G2 H' x H2 hi' sb S2.le S2.tb hy
      have hdr : ds.drop i = d :: ds.drop (i + 1) := by
        obtain ⟨h1, h2⟩ := List.getElem?_eq_some_iff.mp hd
        rw [List.drop_eq_getElem_cons h1, h2]
      rw [hdr] at eq
      unfold lcP at eq
      cases e3 : tgt d (wipeE env vs) with
      | none => rw [e3] at eq; rw [eq] at q; exact q.elim
      | some env1 =>
        rw [e3] at eq
        dsimp only at eq
        refine ⟨G3, _, env1, Fs, d, S2.step0 st3, rd, e3, fun σ2 Fs2 S4 sub4 p4 => ⟨?_, env1, G3, Fs2, S4, ?_⟩⟩
        · exact wipe_of (by rw [hlen]; exact p4)
        · have s3 := st3
          have rD3 := rD.step0 st3
          have st' : Step W G1 H1 Emp G3 H2 FD := st.trans (st3.wide (fun _ h => h.elim) fun a h => .inl h)
          cases e4 : tt env1 with
          | stk => rw [e4] at eq; rw [eq] at q; exact q.elim
          | exc c u => rw [e4] at eq; rw [eq] at q; exact q.elim
          | ok b =>
            rw [e4] at eq
            intro G5 H5 s5
            have rD5 := rD3.step0 s5
            have st5 : Step W G1 H1 Emp G5 H5 FD := st'.trans (s5.wide (fun _ h => h.elim) fun a h => .inl h)
            have S5 := S2.step0 (st3.trans s5)
            have sb5 : Sub G1 G5 := fun a o h => s5.g a o (st3.g a o (sb a o h))
            have kp5 : Sub Kp H5 := fun a o h => s5.h a o (st3.h a o (kp' a o h) (fun h => h) (nt a o h)) (fun h => h) (nt a o h)
            cases b with
            | false =>
              rw [if_neg (by decide)]
              exact ⟨G5, acc, FD, S5, sb5, rD5, by omega, dj, st5, kp5, eq⟩
            | true =>
              rw [if_pos rfl]
              refine ⟨env1, G5, Fs2, S4.step0 s5, ?_⟩
              dsimp only at eq
              cases e5 : el env1 with
              | stk => rw [e5] at eq; rw [eq] at q; exact q.elim
              | exc c u => rw [e5] at eq; rw [eq] at q; exact q.elim
              | ok y =>
                rw [e5] at eq
                intro v G6 H6 F1 s6 r6
                have djF : ∀ a, F1 a → ¬ FD a := fun a h1 h2 => by
                  obtain ⟨_, o, h3, _⟩ := rD5.own a h2
                  rcases s6.f a h1 with z | z
                  · exact z
                  · rw [h3] at z; cases z
                have rD6 := rD5.step0 s6
                obtain ⟨us, hD6, hvl, s7, r7⟩ := acc_push rD6 r6 s6.le s6.b djF
                have S6 := S5.step0 s6
                have dj7 : ∀ j a, Fs j a → ¬ (FD a ∨ F1 a) := fun j a h1 h2 => by
                  rcases h2 with h2 | h2
                  · exact dj j a h1 h2
                  · obtain ⟨_, o, h3, _⟩ := S5.ow j a h1
                    rcases s6.f a h2 with z | z
                    · exact z
                    · rw [h3] at z; cases z
                refine ⟨us, hD6, by omega, G6, acc ++ [y], _, S6.step s7 dj7, fun a o h => s6.g a o (sb5 a o h), r7, by rw [List.length_append, List.length_singleton]; omega, dj7, ?_, fun a o h => s7.h a o (s6.h a o (kp5 a o h) (fun h => h) (nt a o h)) (fun h2 => ?_) (nt a o h), eq⟩
                · exact (st5.trans (s6.wide (fun _ h => h.elim) fun a h => h : Step W G5 H5 FD G6 H6 (fun a => FD a ∨ F1 a))).trans s7
                · rcases h2 with h2 | h2
                  · rcases st.f a h2 with z | z
                    · exact z
                    · rw [kp a o h] at z; cases z
                  · rcases s6.f a h2 with z | z
                    · exact z
                    · rw [kp5 a o h] at z; cases z
    · rintro H' ⟨G2, acc, FD, S2, sb, rD, hl, dj, st, _, eq⟩
      rw [List.drop_length] at eq
      unfold lcP at eq
      rw [eq] at q
      exact q _ G2 H' FD (s1.trans st) rD
theorem SV_lc {elt tg iter : Expr} {ifs : List Expr} {scope : Scope} (own : List (Str × Nat)) {pos : Pos} {it : En → R Unit (List D)} {tgt : D → En → Option En} {tt : En → RB} {el : En → RP} (hc : X.calm = true) (hN : X.N.Nodup) (hi : SJk X W Wx tg it iter)
    (ok : BlkOk X.N X.env.scope scope own) (hg : Bk X scope fun Y => SG Y W (outs (own.map (·.2)) X.N.length) tgt tg) (ht : Bk X scope fun Y => STs Y W WxF tt ifs) (he : Bk X scope fun Y => SV Y W WxF el elt) (hs : ∀ x, foldedSetIterable iter X.env x = pure x := by intro _; rfl) :
    SV X W Wx (bLc (own.map (·.2)) it tgt tt el) (.ListComp elt [⟨tg, iter, ifs, 0⟩] scope pos) := fun env =>
  ((pe_lc hc hN (hi env) ok (fun s H C cl fp => (hg s H C cl fp).pg) (fun s H C cl fp => PTs_any (ht s H C cl fp)) (fun s H C cl fp => PE_any (he s H C cl fp)) hs : PE X (.ListComp elt [⟨tg, iter, ifs, 0⟩] scope pos) _)).imp' fun pins s σ H Q I q => lcP_core I.len q
theorem _root_.L2.PS.imp' {X : Cx} {e : Stmt} {t t' : TS} (h : PS X e t) (hi : ∀ D pins s σ H, Inv X pins σ H s → t' D σ H → t D σ H) : PS X e t' := ⟨fun pins s σ H D I q => h.run pins s σ H D I (hi D pins s σ H I q)⟩
theorem SS_setLcP (i : Nat) (fz : Bool) {y : Str} {py : Pos} {spos : Pos} {elt tg iter : Expr} {ifs : List Expr} {scope : Scope} (own : List (Str × Nat)) {pos : Pos} {it : En → R Unit (List D)} {tgt : D → En → Option En} {tt : En → RB} {el : En → RP} (hc : X.calm = true) (hN : X.N.Nodup) (hi : SJk X W Wx tg it iter)
    (ok : BlkOk X.N X.env.scope scope own) (hg : Bk X scope fun Y => SG Y W (outs (own.map (·.2)) X.N.length) tgt tg) (ht : Bk X scope fun Y => STs Y W WxF tt ifs) (he : Bk X scope fun Y => SV Y W WxF el elt)
    (hk : X.env.scope.kind = .function := by rfl) (hl : (py.line == pos.line) = true := by rfl) (ha : (scope.names.any fun (n, k) => n == y && (k == .local || k == .cell)) = false := by decide +kernel)
    (hp : i ∉ pr := by decide) (hy : X.N[i]? = some y := by rfl) (hyl : X.env.scope.names.lookup y = some .local := by rfl) (hs : ∀ x, foldedSetIterable iter X.env x = pure x := by intro _; rfl) :
    SS X W Wx pr (sSet i (pE (if fz then bFrz (bLc (own.map (·.2)) it tgt tt el) else bLc (own.map (·.2)) it tgt tt el))) (.Assign [.Name y py] (.ListComp elt [⟨tg, iter, ifs, 0⟩] scope pos) spos) := fun env =>
  (ps_setLc hc hN hy hyl (sw_true hk hyl hl ha) (hi env) ok (fun s H C cl fp => (hg s H C cl fp).pg) (fun s H C cl fp => PTs_any (ht s H C cl fp)) (fun s H C cl fp => PE_any (he s H C cl fp)) hs).imp' fun D pins s σ H I q => by
    have q2 := tV_tE (set_core hp q)
    have q3 : tV W Wx env (bLc (own.map (·.2)) it tgt tt el env) σ H fun x H1 => D.nx (σ.set i (some x)) H1 := by
      cases fz with
      | true => exact tV_frz q2
      | false => exact q2
    exact lcP_core I.len q3
end
end
end FD


set_option Elab.async false
set_option linter.all false
set_option maxRecDepth 100000
namespace FD
noncomputable section
open PySem PySem.Spec L2
section
variable {X : Cx} {W : Wd} {Wx : WX} {pr : List Nat} {G G' H H' : Hp} {env env' : En} {σ σ' : St} {Fs Fs' : Nat → Fp} {F F' : Fp}
def lcE (vs : List Nat) (tgt : D → En → Option En) (tt : En → R En (Bool × En)) (elt : En → RE) : List D → List O → En → R En (List O × En)
  | [], acc, env => .ok (acc, env)
  | d :: ds, acc, env => match tgt d env with
    | none => .stk
    | some e1 => match tt e1 with
      | .ok (true, e2) => match elt e2 with
        | .ok (x, e3) => lcE vs tgt tt elt ds (acc ++ [x]) (wipeE e3 vs)
        | _ => .stk
      | .ok (false, e2) => lcE vs tgt tt elt ds acc (wipeE e2 vs)
      | _ => .stk
def eLc (vs : List Nat) (it : En → R En (List D × En)) (tgt : D → En → Option En) (tt : En → R En (Bool × En)) (elt : En → RE) : En → RE := fun env => (it env).bind fun p =>
  if szOk p.1.length then match lcE vs tgt tt elt p.1 [] (wipeE p.2 vs) with
    | .ok (acc, e) => .ok (.lst acc, restE p.2 e vs)
    | _ => .stk
  else .stk
set_option maxHeartbeats 1000000 in
theorem lcE_core {n : Nat} {vs : List Nat} {Q : VK} {it : En → R En (List D × En)} {tgt : D → En → Option En} {tt : En → R En (Bool × En)} {el : En → RE} (hlen : σ.length = n) (q : tE W Wx env (eLc vs it tgt tt el env) σ H Q) :
    tLc (tI W Wx env (it env)) (tG W (outs vs n) tgt) (fun σ H Q => ∃ a, tU W WxF a (tt a) σ H Q) (fun σ H Q => ∃ a, tE W WxF a (el a) σ H Q) vs σ H Q := by
  obtain ⟨G, Fs, S, q⟩ := q
  refine ⟨G, Fs, S, ?_⟩
  unfold eLc at q
  cases e1 : it env with
  | stk => rw [e1] at q; exact q
  | exc c u => rw [e1] at q; exact q
  | ok pp =>
    obtain ⟨ds, env1⟩ := pp
    rw [e1, bind_ok] at q
    intro J G1 H1 Fs1 s1 S1 src D hD
    dsimp only at q
    cases hz : szOk ds.length with
    | false => rw [hz, if_neg (by decide)] at q; exact q.elim
    | true =>
    rw [hz, if_pos rfl] at q
    have hz : ds.length ≤ sizeLine := szOk_sz hz
    generalize hZ : lcE vs tgt tt el ds [] (wipeE env1 vs) = Z at q
    obtain ⟨Gd, Y, w, hGd, hY⟩ := id src
    obtain ⟨sA, rA⟩ := acc_new s1.le s1.b hD
    refine lc_it (g := tG W (outs vs n) tgt) (tt := fun σ H Q => ∃ a, tU W WxF a (tt a) σ H Q) (te := fun σ H Q => ∃ a, tE W WxF a (el a) σ H Q) (vs := vs) (σ := σ) (H1 := H1) (D := D) (Qd := fun H => Q (.ref D) H) w
      (fun i H' => ∃ G2 acc FD env2 Fs2, Sim W G2 env2 (wipe σ vs) H' Fs2 ∧ Sub G1 G2 ∧ RpO W.C G2 H' (.lst acc) (.ref D) FD ∧ acc.length ≤ i ∧ (∀ j a, Fs2 j a → ¬ FD a) ∧ Step W G H (All Fs) G2 H' (fun a => FD a ∨ All Fs2 a) ∧
      Z = lcE vs tgt tt el (ds.drop i) acc env2) ?_ ?_ ?_ ?_
    · refine ⟨G1, [], fun a => a = D, _, Fs1, (S1.step0 sA).wipe vs, fun _ _ h => h, rA, Nat.le_refl _, fun j a h e => ?_, s1.trans (sA.wide (fun _ h => h.elim) fun a h => ?_), hZ.symm⟩
      · obtain ⟨_, o, h2, _⟩ := S1.ow j a h
        rw [e, hD] at h2; cases h2
      · rcases h with h | h
        · exact .inr h
        · exact .inl h
    · rintro i H' hi' ⟨G2, acc, FD, env2, Fs2, S2, sb, _⟩
      exact hGd H' fun a o h => S2.le a o (sb a o h)
    · rintro i x H' H2 hi' ⟨G2, acc, FD, env2, Fs2, S2, sb, rD, hl, dj, st, eq⟩ hy
      obtain ⟨G3, d, hd, st3, rd⟩ := hY i G2 H' x H2 hi' sb S2.le S2.tb hy
      have hdr : ds.drop i = d :: ds.drop (i + 1) := by
        obtain ⟨h1, h2⟩ := List.getElem?_eq_some_iff.mp hd
        rw [List.drop_eq_getElem_cons h1, h2]
      rw [hdr] at eq
      unfold lcE at eq
      cases e3 : tgt d env2 with
      | none => rw [e3] at eq; rw [eq] at q; exact q.elim
      | some e4 =>
        rw [e3] at eq
        dsimp only at eq
        refine ⟨G3, env2, e4, Fs2, d, S2.step0 st3, rd, e3, fun σ2 Fs4 S4 sub4 p4 => ?_⟩
        have hw : wipe σ2 vs = wipe σ vs := wipe_of (by rw [hlen]; exact p4)
        refine ⟨hw, e4, G3, Fs4, S4, ?_⟩
        have rD3 := rD.step0 st3
        have st4 : Step W G H (All Fs) G3 H2 (fun a => FD a ∨ All Fs4 a) := st.trans (st3.wide (fun _ h => h.elim) fun a h => .inl (h.imp id (sub4 a)))
        have dj4 : ∀ j a, Fs4 j a → ¬ FD a := fun j a h1 => by
          obtain ⟨k, hk⟩ := sub4 a ⟨j, h1⟩
          exact dj k a hk
        have sb3 : Sub G1 G3 := fun a o h => st3.g a o (sb a o h)
        cases e5 : tt e4 with
        | stk => rw [e5] at eq; rw [eq] at q; exact q.elim
        | exc c u => rw [e5] at eq; rw [eq] at q; exact q.elim
        | ok pp =>
          obtain ⟨b, e6⟩ := pp
          rw [e5] at eq
          intro G5 H5 Fs5 s5 S5
          have rD5 := rD3.step s5 fun a h1 ⟨j, h2⟩ => dj4 j a h2 h1
          have dj5 : ∀ a, FD a → ¬ All Fs5 a := apart_after rD3 s5 fun a h1 ⟨j, h2⟩ => dj4 j a h2 h1
          have st5 : Step W G H (All Fs) G5 H5 (fun a => FD a ∨ All Fs5 a) := st4.trans (s5.wide (fun _ h => .inr h) fun a h => h.elim (fun h => .inl (.inl h)) .inr)
          have sb5 : Sub G1 G5 := fun a o h => s5.g a o (sb3 a o h)
          cases b with
          | false =>
            rw [if_neg (by decide)]
            exact ⟨G5, acc, FD, _, Fs5, by rw [← hw]; exact S5.wipe vs, sb5, rD5, by omega, fun j a h1 h2 => dj5 a h2 ⟨j, h1⟩, st5, eq⟩
          | true =>
            rw [if_pos rfl]
            refine ⟨e6, G5, Fs5, S5, ?_⟩
            dsimp only at eq
            cases e7 : el e6 with
            | stk => rw [e7] at eq; rw [eq] at q; exact q.elim
            | exc c u => rw [e7] at eq; rw [eq] at q; exact q.elim
            | ok pp =>
              obtain ⟨y, e8⟩ := pp
              rw [e7] at eq
              intro v G6 H6 F1 Fs6 s6 r6 S6 d6
              have dj6 : ∀ a, FD a → ¬ (F1 a ∨ All Fs6 a) := apart_after rD5 s6 dj5
              have rD6 := rD5.step s6 dj5
              obtain ⟨us, hD6, hvl, s7, r7⟩ := acc_push rD6 r6 s6.le s6.b fun a h1 h2 => dj6 a h2 (.inl h1)
              have dj7 : ∀ j a, Fs6 j a → ¬ (FD a ∨ F1 a) := fun j a h1 h2 => by
                rcases h2 with h2 | h2
                · exact dj6 a h2 (.inr ⟨j, h1⟩)
                · exact d6 j a h2 h1
              refine ⟨us, hD6, by omega, G6, acc ++ [y], _, _, Fs6, by rw [← hw]; exact (S6.step s7 dj7).wipe vs, fun a o h => s6.g a o (sb5 a o h), r7, by rw [List.length_append, List.length_singleton]; omega, dj7, ?_, eq⟩
              refine st5.trans ((s6.wide (F1 := fun a => FD a ∨ All Fs5 a) (F1' := fun a => (FD a ∨ F1 a) ∨ All Fs6 a) (fun _ h => .inr h) fun a h => ?_).trans (s7.wide (fun _ h => .inl h) fun a h => ?_))
              · rcases h with (h | h) | h
                · exact .inl (.inl h)
                · exact .inr (.inl h)
                · exact .inr (.inr h)
              · rcases h with h | h
                · exact .inl (.inl h)
                · exact .inl (.inr h)
    · rintro H' ⟨G2, acc, FD, env2, Fs2, S2, sb, rD, hl, dj, st, eq⟩
      rw [List.drop_length] at eq
      unfold lcE at eq
      rw [eq] at q
      obtain ⟨Fs3, S3, sub3⟩ := Sim.rest S1 sb S2
      exact q _ G2 H' FD Fs3 (st.wide (fun _ h => h) fun a h => .inr (h.imp id (sub3 a))) rD S3 fun i a h1 h2 => by
        obtain ⟨j, hj⟩ := sub3 a ⟨i, h2⟩
        exact dj j a hj h1
theorem SE_lc {elt tg iter : Expr} {ifs : List Expr} {scope : Scope} (own : List (Str × Nat)) {pos : Pos} {it : En → R En (List D × En)} {tgt : D → En → Option En} {tt : En → R En (Bool × En)} {el : En → RE} (hc : X.calm = true) (hN : X.N.Nodup) (hi : SI X W Wx tg it iter)
    (ok : BlkOk X.N X.env.scope scope own) (hg : Bk X scope fun Y => SG Y W (outs (own.map (·.2)) X.N.length) tgt tg) (ht : Bk X scope fun Y => SUs Y W WxF tt ifs) (he : Bk X scope fun Y => SE Y W WxF el elt) (hs : ∀ x, foldedSetIterable iter X.env x = pure x := by intro _; rfl) :
    SE X W Wx (eLc (own.map (·.2)) it tgt tt el) (.ListComp elt [⟨tg, iter, ifs, 0⟩] scope pos) := fun env =>
  ((pe_lc hc hN (hi env) ok (fun s H C cl fp => (hg s H C cl fp).pg) (fun s H C cl fp => PTs_any (ht s H C cl fp)) (fun s H C cl fp => PE_any (he s H C cl fp)) hs : PE X (.ListComp elt [⟨tg, iter, ifs, 0⟩] scope pos) _)).imp' fun pins s σ H Q I q => lcE_core I.len q
end
end
end FD


set_option Elab.async false
set_option linter.all false
set_option maxRecDepth 100000
namespace FD
noncomputable section
open PySem PySem.Spec L2
open PyProof.Rows (envOfC)
section
variable {X : Cx} {W : Wd} {Wx : WX} {pr : List Nat} {G G' H H' : Hp} {env env' : En} {σ σ' : St} {Fs Fs' : Nat → Fp} {F F' : Fp}
structure ArgsOk (W : Wd) (G H : Hp) (ds : List O) (vs : List V) (FA : Nat → Fp) : Prop where
  len : ds.length = vs.length
  rp : ∀ (i : Nat) (d : O) (v : V), ds[i]? = some d → vs[i]? = some v → RpO W.C G H d v (FA i)
  dj : ∀ (i j : Nat) (a : Addr), i ≠ j → FA i a → ¬ FA j a
  bd : ∀ (i : Nat) (a : Addr), FA i a → i < ds.length
def tN (W : Wd) (Wx : WX) (ks : List (Option Nat)) (env : En) (r : R En (List O × En)) : TA := fun σ H Q => ∃ G Fs, Sim W G env σ H Fs ∧ match r with
  | .ok (ds, env') => ∀ vs G' H' FA Fs', Step W G H (All Fs) G' H' (fun a => All FA a ∨ All Fs' a) → ArgsOk W G' H' ds vs FA → Sim W G' env' σ H' Fs' → (∀ i j a, FA i a → ¬ Fs' j a) →
      (∀ (p i : Nat), ks[p]? = some (some i) → ∃ v, vs[p]? = some v ∧ σ[i]? = some (some v)) → Q vs H'
  | .exc c env' => ∀ G' H' Fs', Step W G H (All Fs) G' H' (All Fs') → Sim W G' env' σ H' Fs' → Wx (.ref (W.C.cls c)) none σ H'
  | .stk => False
def SN (X : Cx) (W : Wd) (Wx : WX) (ks : List (Option Nat)) (f : En → R En (List O × En)) (es : List Expr) : Prop := ∀ env, PA X es (tN W Wx ks env (f env))
theorem PA_any {α : Type} {e : List Expr} {t : α → TA} (h : ∀ a, PA X e (t a)) : PA X e (fun σ H Q => ∃ a, t a σ H Q) := ⟨fun pos pins s σ H Q I ⟨a, q⟩ => (h a).run pos pins s σ H Q I q⟩
def nNil : En → R En (List O × En) := fun env => .ok ([], env)
theorem SN_nil : SN X W Wx [] nNil [] := fun env => pa_nil.imp fun σ H Q => by
  rintro ⟨G, Fs, S, q⟩
  exact q [] G H (fun _ => Emp) Fs (S.refl.wide (fun _ h => h) fun a h => .inl (h.elim (fun ⟨_, h⟩ => h.elim) id)) ⟨rfl, fun i d v h => by simp at h, fun _ _ _ _ h => h.elim, fun _ _ h => h.elim⟩ S (fun _ _ _ h => h.elim) fun p i h => by simp at h
def consF (F1 : Fp) (FA : Nat → Fp) : Nat → Fp
  | 0 => F1
  | i + 1 => FA i
theorem ArgsOk.cons {d : O} {v : V} {F1 : Fp} {ds : List O} {vs : List V} {FA : Nat → Fp} (r : RpO W.C G H d v F1) (A : ArgsOk W G H ds vs FA) (dj : ∀ i a, F1 a → ¬ FA i a) : ArgsOk W G H (d :: ds) (v :: vs) (consF F1 FA) where
  len := by rw [List.length_cons, List.length_cons, A.len]
  rp := fun i d' v' h1 h2 => by
    cases i with
    | zero => cases h1; cases h2; exact r
    | succ i => exact A.rp i d' v' h1 h2
  dj := fun i j a hij h1 h2 => by
    cases i with
    | zero =>
      cases j with
      | zero => exact hij rfl
      | succ j => exact dj j a h1 h2
    | succ i =>
      cases j with
      | zero => exact dj i a h2 h1
      | succ j => exact A.dj i j a (fun e => hij (by rw [e])) h1 h2
  bd := fun i a h => by
    cases i with
    | zero => exact Nat.succ_pos _
    | succ i => exact Nat.succ_lt_succ (A.bd i a h)
theorem all_cons {F1 : Fp} {FA : Nat → Fp} {a : Addr} : All (consF F1 FA) a ↔ F1 a ∨ All FA a := by
  constructor
  · rintro ⟨i, h⟩
    cases i with
    | zero => exact .inl h
    | succ i => exact .inr ⟨i, h⟩
  · rintro (h | ⟨i, h⟩)
    · exact ⟨0, h⟩
    · exact ⟨i + 1, h⟩
def nCons (f : En → RE) (g : En → R En (List O × En)) : En → R En (List O × En) := fun env => (f env).bind fun p => (g p.2).bind fun q => .ok (p.1 :: q.1, q.2)
theorem SN_cons {ks : List (Option Nat)} {f : En → RE} {g : En → R En (List O × En)} {e : Expr} {es : List Expr} (ha : SE X W Wx f e) (hr : SN X W Wx ks g es) (hs : starEach (e :: es) X.env = (false, eval e X.env) :: starEach es X.env := by rfl) : SN X W Wx (none :: ks) (nCons f g) (e :: es) :=
  fun env => (pa_cons (ha env) (PA_any hr) hs).imp fun σ H Q => by
    rintro ⟨G, Fs, S, q⟩
    refine ⟨G, Fs, S, ?_⟩
    unfold nCons at q
    cases e1 : f env with
    | stk => rw [e1] at q; exact q
    | exc c u => rw [e1] at q; exact q
    | ok p =>
      obtain ⟨d, e2⟩ := p
      rw [e1, bind_ok] at q
      intro v G1 H1 F1 Fs1 s1 r1 S1 d1
      refine ⟨e2, G1, Fs1, S1, ?_⟩
      dsimp only at q
      have dd : ∀ a, F1 a → ¬ All Fs1 a := fun a h1 ⟨i, h2⟩ => d1 i a h1 h2
      cases e3 : g e2 with
      | stk => rw [e3] at q; exact q
      | exc c u => rw [e3] at q; exact fun G' H' Fs' s S' => q G' H' Fs' (s1.trans (s.wide (fun _ h => .inr h) fun _ h => .inr h)) S'
      | ok p =>
        obtain ⟨ds, e4⟩ := p
        rw [e3, bind_ok] at q
        intro vs G2 H2 FA Fs2 s2 A2 S2 d2 k2
        have dd2 := apart_after r1 s2 dd
        refine q (v :: vs) G2 H2 (consF F1 FA) Fs2 (s1.trans (s2.wide (fun _ h => .inr h) fun a h => ?_)) (A2.cons (r1.step s2 dd) fun i a h1 h2 => dd2 a h1 (.inl ⟨i, h2⟩)) S2 (fun i j a h1 h2 => ?_) fun p i h => ?_
        · rcases h with h | h
          · rcases all_cons.mp h with h | h
            · exact .inl (.inl h)
            · exact .inr (.inl h)
          · exact .inr (.inr h)
        · cases i with
          | zero => exact dd2 a h1 (.inr ⟨j, h2⟩)
          | succ i => exact d2 i j a h1 h2
        · cases p with
          | zero => cases h
          | succ p => exact k2 p i h
def nLend (i : Nat) (g : En → R En (List O × En)) : En → R En (List O × En) := fun env => match gt env i with
  | some d => (g (env.set i none)).bind fun q => .ok (d :: q.1, q.2)
  | none => .stk
theorem Sim.lend (S : Sim W G env σ H Fs) (i : Nat) : Sim W G (env.set i none) σ H (fun j => if j = i then Emp else Fs j) where
  le := S.le
  len := (S.setN i).len
  rp := fun j d e => by
    by_cases h : j = i
    · subst h
      have := gt_setN env j
      unfold gt at this
      rw [e] at this
      cases this
    · simp only [h, if_false]
      exact (S.setN i).rp j d e
  dj := fun j k a hjk h1 h2 => by
    by_cases hj : j = i
    · simp only [hj, if_true] at h1; exact h1.elim
    · by_cases hk : k = i
      · simp only [hk, if_true] at h2; exact h2.elim
      · simp only [hj, hk, if_false] at h1 h2; exact S.dj j k a hjk h1 h2
  ow := fun j a h => by
    by_cases hj : j = i
    · simp only [hj, if_true] at h; exact h.elim
    · simp only [hj, if_false] at h; exact S.ow j a h
  tb := S.tb
theorem all_lend {i : Nat} : ∀ a, All (fun j => if j = i then Emp else Fs j) a → All Fs a := fun a ⟨j, h⟩ => by
  by_cases hj : j = i
  · simp only [hj, if_true] at h; exact h.elim
  · simp only [hj, if_false] at h; exact ⟨j, h⟩
theorem SN_lend (i : Nat) {ks : List (Option Nat)} {g : En → R En (List O × En)} {x : Str} {pos : Pos} {es : List Expr} (hr : SN X W Wx ks g es) (hN : X.N[i]? = some x := by rfl) (hv : Vis X.env.scope x := by first | exact Or.inl rfl | exact Or.inr (Or.inl rfl) | exact Or.inr (Or.inr rfl)) (hd : (x == ("__debug__" : Str)) = false := by decide)
    (hcd : (x == ("__classdict__" : Str)) = false := by decide) (hs : starEach ((.Name x pos : Expr) :: es) X.env = (false, eval (.Name x pos) X.env) :: starEach es X.env := by rfl) : SN X W Wx (some i :: ks) (nLend i g) (.Name x pos :: es) :=
  fun env => (pa_cons (pe_var hN hv hd hcd) (PA_any hr) hs).imp fun σ H Q => by
    rintro ⟨G, Fs, S, q⟩
    unfold nLend at q
    cases e1 : gt env i with
    | none => rw [e1] at q; exact q.elim
    | some d =>
      rw [e1] at q
      obtain ⟨v, h1, r1⟩ := S.rp i d (gt_some e1)
      refine ⟨v, h1, env.set i none, G, _, S.lend i, ?_⟩
      dsimp only at q
      have dd : ∀ a, Fs i a → ¬ All (fun j => if j = i then Emp else Fs j) a := fun a h1 ⟨j, h2⟩ => by
        by_cases hj : j = i
        · simp only [hj, if_true] at h2; exact h2
        · simp only [hj, if_false] at h2; exact S.dj j i a hj h2 h1
      cases e3 : g (env.set i none) with
      | stk => rw [e3] at q; exact q
      | exc c u => rw [e3] at q; exact fun G' H' Fs' s S' => q G' H' Fs' (s.wide all_lend fun _ h => .inr h) S'
      | ok p =>
        obtain ⟨ds, e4⟩ := p
        rw [e3, bind_ok] at q
        intro vs G2 H2 FA Fs2 s2 A2 S2 d2 k2
        have dd2 := apart_after r1 s2 dd
        refine q (v :: vs) G2 H2 (consF (Fs i) FA) Fs2 (s2.wide all_lend fun a h => ?_) (A2.cons (r1.step s2 dd) fun j a h1 h2 => dd2 a h1 (.inl ⟨j, h2⟩)) S2 (fun p j a h1 h2 => ?_) fun p j h => ?_
        · rcases h with h | h
          · rcases all_cons.mp h with h | h
            · exact .inl ⟨i, h⟩
            · exact .inr (.inl h)
          · exact .inr (.inr h)
        · cases p with
          | zero => exact dd2 a h1 (.inr ⟨j, h2⟩)
          | succ p => exact d2 p j a h1 h2
        · cases p with
          | zero =>
            have e : j = i := by
              have : some (some i) = some (some j) := h
              cases this; rfl
            subst e
            exact ⟨v, rfl, h1⟩
          | succ p => exact k2 p j h

inductive RC where
  | ok (d : O) (fin : List O) | exc (c : Nat) (fin : List O) | stk
structure FinOk (W : Wd) (G H : Hp) (pr : List Nat) (fin : List O) (vs : List V) (FB : Nat → Fp) : Prop where
  rp : ∀ (j i : Nat) (d : O) (v : V), pr[j]? = some i → fin[j]? = some d → vs[i]? = some v → RpO W.C G H d v (FB j)
  dj : ∀ (i j : Nat) (a : Addr), i ≠ j → FB i a → ¬ FB j a
def spC (W : Wd) (n : Nat) (pr : List Nat) (T : List O → RC) : Sp := fun vs H Q E => ∃ G ds FA, Sub G H ∧ TabOk W G H ∧ ArgsOk W G H ds vs FA ∧ ds.length = n ∧ match T ds with
  | .ok d fin => ∀ v G' H' F1 FB, Step W G H (All FA) G' H' (fun a => F1 a ∨ All FB a) → RpO W.C G' H' d v F1 → FinOk W G' H' pr fin vs FB → (∀ a, F1 a → ¬ All FB a) → Q v H'
  | .exc c fin => ∀ G' H' FB, Step W G H (All FA) G' H' (All FB) → FinOk W G' H' pr fin vs FB → E (.ref (W.C.cls c)) none H'
  | .stk => False
def putB : List (Nat × Nat) → List O → En → Option En
  | [], _, e => some e
  | (i, j) :: bk, fin, e => match fin[j]? with
    | some d => putB bk fin (e.set i (some d))
    | none => none
def bkOk (ks : List (Option Nat)) (pr : List Nat) (bk : List (Nat × Nat)) : Bool := (bk.all fun p => match pr[p.2]? with
  | some q => match ks[q]? with
    | some (some i) => i == p.1
    | _ => false
  | none => false) && decide (bk.map (·.2)).Nodup
theorem set_self {σ : St} {i : Nat} {v : V} (h : σ[i]? = some (some v)) : σ.set i (some v) = σ := by
  apply List.ext_getElem?
  intro j
  by_cases hj : i = j
  · subst hj
    rw [List.getElem?_set_self (List.getElem?_eq_some_iff.mp h).1, h]
  · rw [List.getElem?_set_ne hj]
theorem put_ok {ks : List (Option Nat)} {fin : List O} {vs : List V} {FB : Nat → Fp} {F1 : Fp} (FO : FinOk W G H pr fin vs FB) (hk : ∀ (p i : Nat), ks[p]? = some (some i) → ∃ v, vs[p]? = some v ∧ σ[i]? = some (some v)) (hF : ∀ a, F1 a → ¬ All FB a) :
    ∀ {bk : List (Nat × Nat)} {e e' : En} {Fs : Nat → Fp}, bkOk ks pr bk = true → putB bk fin e = some e' → Sim W G e σ H Fs → (∀ j ∈ bk.map (·.2), ∀ i a, FB j a → ¬ Fs i a) → (∀ i a, F1 a → ¬ Fs i a) →
      ∃ Fs2, Sim W G e' σ H Fs2 ∧ (∀ a, All Fs2 a → All Fs a ∨ All FB a) ∧ (∀ i a, F1 a → ¬ Fs2 i a)
  | [], e, e', Fs, _, h, S, _, d => by
    cases h
    exact ⟨Fs, S, fun _ h => .inl h, d⟩
  | (i, j) :: bk, e, e', Fs, hb, h, S, dj, d => by
    unfold putB at h
    unfold bkOk at hb
    rw [List.all_cons, List.map_cons, Bool.and_eq_true, Bool.and_eq_true] at hb
    obtain ⟨⟨h1, h2⟩, h3⟩ := hb
    have h3 := of_decide_eq_true h3
    rw [List.nodup_cons] at h3
    cases e1 : fin[j]? with
    | none => rw [e1] at h; cases h
    | some x =>
      rw [e1] at h
      cases e2 : pr[j]? with
      | none => rw [show pr[(i, j).2]? = none from e2] at h1; cases h1
      | some p =>
        rw [show pr[(i, j).2]? = some p from e2] at h1
        dsimp only at h1
        cases e3 : ks[p]? with
        | none => rw [e3] at h1; cases h1
        | some k =>
          rw [e3] at h1
          cases k with
          | none => cases h1
          | some i' =>
            have h1 : i' = i := by simpa using h1
            subst h1
            obtain ⟨v, hv, hσ⟩ := hk p i' e3
            have r := FO.rp j p x v e2 e1 hv
            have S1 := S.set (i := i') r fun k a h1 => dj j (by simp) k a h1
            rw [set_self hσ] at S1
            obtain ⟨Fs2, S2, s2, d2⟩ := put_ok FO hk hF (bk := bk) (by unfold bkOk; rw [Bool.and_eq_true]; exact ⟨h2, decide_eq_true h3.2⟩) h S1 (fun j2 hj2 k a q1 q2 => by
              by_cases hk : k = i'
              · simp only [hk, if_true] at q2
                refine FO.dj j2 j a (fun e => ?_) q1 q2
                subst e
                exact h3.1 hj2
              · simp only [hk, if_false] at q2
                exact dj j2 (by rw [List.map_cons]; exact List.mem_cons_of_mem _ hj2) k a q1 q2) (fun k a q1 q2 => by
              by_cases hk : k = i'
              · simp only [hk, if_true] at q2
                exact hF a q1 ⟨j, q2⟩
              · simp only [hk, if_false] at q2
                exact d k a q1 q2)
            refine ⟨Fs2, S2, fun a h => ?_, d2⟩
            rcases s2 a h with h | h
            · rcases all_set a h with h | h
              · exact .inr ⟨j, h⟩
              · exact .inl h
            · exact .inr h
def eCall (T : List O → RC) (bk : List (Nat × Nat)) (h : En → R En (List O × En)) : En → RE := fun env => (h env).bind fun p => match T p.1 with
  | .ok d fin => match putB bk fin p.2 with
    | some e => .ok (d, e)
    | none => .stk
  | .exc c fin => match putB bk fin p.2 with
    | some e => .exc c e
    | none => .stk
  | .stk => .stk
theorem call_core {n : Nat} {ks : List (Option Nat)} {T : List O → RC} {bk : List (Nat × Nat)} {h : En → R En (List O × En)} {t : TA} {Q : VK} (hT : ∀ ds, (T ds) ≠ .stk → ds.length = n) (hb : bkOk ks pr bk = true) (ht : ∀ Q', tN W Wx ks env (h env) σ H Q' → t σ H Q')
    (q : tE W Wx env (eCall T bk h env) σ H Q) : t σ H fun vs H1 => spC W n pr T vs H1 Q (WE Wx σ) := by
  obtain ⟨G, Fs, S, q⟩ := q
  refine ht _ ⟨G, Fs, S, ?_⟩
  unfold eCall at q
  cases e1 : h env with
  | stk => rw [e1] at q; exact q
  | exc c u => rw [e1] at q; exact q
  | ok p =>
    obtain ⟨ds, e2⟩ := p
    rw [e1, bind_ok] at q
    intro vs G1 H1 FA Fs1 s1 A1 S1 d1 k1
    dsimp only at q
    refine ⟨G1, ds, FA, s1.le, s1.b, A1, ?_, ?_⟩
    · refine hT ds fun e => ?_
      rw [e] at q; exact q
    have base : ∀ {G' H' : Hp} {F2 : Fp}, Step W G1 H1 (All FA) G' H' F2 → Sim W G' e2 σ H' Fs1 ∧ (∀ a, All Fs1 a → ¬ F2 a) := fun {G' H' F2} s => by
      refine ⟨S1.step s fun i a h1 ⟨j, h2⟩ => d1 j i a h2 h1, fun a ⟨i, h1⟩ h2 => ?_⟩
      rcases s.f a h2 with ⟨j, z⟩ | z
      · exact d1 j i a z h1
      · obtain ⟨_, o, h3, _⟩ := S1.ow i a h1
        rw [h3] at z; cases z
    cases e3 : T ds with
    | stk => rw [e3] at q; exact q
    | ok d fin =>
      rw [e3] at q
      intro v G' H' F1 FB s2 r2 FO dd
      obtain ⟨S2, ap⟩ := base s2
      dsimp only at q
      cases e4 : putB bk fin e2 with
      | none => rw [e4] at q; exact q.elim
      | some e5 =>
        rw [e4] at q
        obtain ⟨Fs2, S3, s3, d3⟩ := put_ok FO k1 dd hb e4 S2 (fun j _ i a h1 h2 => ap a ⟨i, h2⟩ (.inr ⟨j, h1⟩)) fun i a h1 h2 => ap a ⟨i, h2⟩ (.inl h1)
        refine q v G' H' F1 Fs2 (s1.trans (s2.wide (fun _ h => .inl h) fun a h => ?_)) r2 S3 d3
        rcases h with h | h
        · exact .inr (.inl h)
        · rcases s3 a h with h | h
          · exact .inl (.inr h)
          · exact .inr (.inr h)
    | exc c fin =>
      rw [e3] at q
      intro G' H' FB s2 FO
      obtain ⟨S2, ap⟩ := base s2
      dsimp only at q
      cases e4 : putB bk fin e2 with
      | none => rw [e4] at q; exact q.elim
      | some e5 =>
        rw [e4] at q
        obtain ⟨Fs2, S3, s3, _⟩ := put_ok (F1 := Emp) FO k1 (fun _ h => h.elim) hb e4 S2 (fun j _ i a h1 h2 => ap a ⟨i, h2⟩ ⟨j, h1⟩) fun i a h1 h2 => h1
        refine q G' H' Fs2 (s1.trans (s2.wide (fun _ h => .inl h) fun a h => ?_)) S3
        rcases s3 a h with h | h
        · exact .inl (.inr h)
        · exact .inr h
theorem SE_call {k n : Nat} {f : Addr} {fd : FuncData} {ps : List Str} {T : List O → RC} {ks : List (Option Nat)} (bk : List (Nat × Nat)) {h : En → R En (List O × En)} {x : Str} {p pos : Pos} {e : Expr} {es : List Expr}
    (F : FnOk X.prog X.w X.K X.mg X.base (L2.CX X.prog X.w) k f fd ps (spC W n pr T)) (hT : ∀ ds, (T ds) ≠ .stk → ds.length = n) (hr : Room k X.A) (hg : Gl X x) (hm : X.mg x = some (.ref f)) (hk : PySem.W.keepIn X.K (.ref f) = true) (hb : Binds X.K fd ps []) (tk : Takes X Wx)
    (ha : SN X W Wx ks h (e :: es)) (hbk : bkOk ks pr bk = true := by decide) (hdb : (x == ("__debug__" : Str)) = false := by decide) (he : starEach (e :: es) X.env = (false, eval e X.env) :: starEach es X.env := by rfl) (hpl : (backTo pos (starEach es X.env)).any (·.1) = false := by rfl) :
    SE X W Wx (eCall T bk h) (.Call (.Name x p) (e :: es) [] pos) := fun env => (pe_callS F hr hg hm hk hb (fun σ => passAt tk σ) (ha env) hdb he hpl).imp fun σ H Q q => call_core hT hbk (fun _ h => h) q

def finL : List Nat → En → Option (List O)
  | [], _ => some []
  | i :: is, e => (gt e i).bind fun d => (finL is e).map (d :: ·)
theorem finL_get {e : En} : ∀ {pr : List Nat} {fin : List O} {j i : Nat} {d : O}, finL pr e = some fin → pr[j]? = some i → fin[j]? = some d → gt e i = some d
  | [], _, _, _, _, _, h, _ => by simp at h
  | k :: is, fin, j, i, d, h, h1, h2 => by
    unfold finL at h
    cases e1 : gt e k with
    | none => rw [e1] at h; cases h
    | some x =>
      rw [e1, Option.bind_some] at h
      cases e2 : finL is e with
      | none => rw [e2] at h; cases h
      | some fin' =>
        rw [e2] at h
        cases h
        cases j with
        | zero => cases h1; cases h2; exact e1
        | succ j => exact finL_get e2 h1 h2
def tbl (pr : List Nat) (r : RS) : RC := match r with
  | .rt d e => match finL pr e with
    | some fin => .ok d fin
    | none => .stk
  | .nx e => match finL pr e with
    | some fin => .ok (.sh .non) fin
    | none => .stk
  | .exc c e => match finL pr e with
    | some fin => .exc c fin
    | none => .stk
  | _ => .stk
def fnE (m : Nat) (ds : List O) : En := ds.map some ++ List.replicate (m - ds.length) none
def fnT (n m : Nat) (pr : List Nat) (g : En → RS) : List O → RC := fun ds => if ds.length = n then tbl pr (g (fnE m ds)) else .stk
theorem fnT_len {n m : Nat} {pr : List Nat} {g : En → RS} : ∀ ds, fnT n m pr g ds ≠ .stk → ds.length = n := fun ds h => by
  unfold fnT at h
  split at h
  · assumption
  · exact absurd rfl h
theorem ArgsOk.sim {ds : List O} {vs : List V} {FA : Nat → Fp} (A : ArgsOk W G H ds vs FA) (le : Sub G H) (b : TabOk W G H) {N : List Str} : Sim W G (fnE N.length ds) (L2.start N vs) H FA where
  le := le
  len := by unfold fnE L2.start; rw [List.length_append, List.length_append, List.length_map, List.length_map, List.length_replicate, List.length_replicate, A.len]
  rp := fun i d e => by
    unfold fnE at e
    by_cases hi : i < ds.length
    · rw [List.getElem?_append_left (by rw [List.length_map]; exact hi), List.getElem?_map] at e
      cases e1 : ds[i]? with
      | none => rw [e1] at e; cases e
      | some x =>
        rw [e1] at e
        cases e
        have hv : i < vs.length := by rw [← A.len]; exact hi
        refine ⟨vs[i], ?_, A.rp i _ _ e1 (List.getElem?_eq_getElem hv)⟩
        unfold L2.start
        rw [List.getElem?_append_left (by rw [List.length_map]; exact hv), List.getElem?_map, List.getElem?_eq_getElem hv]; rfl
    · rw [List.getElem?_append_right (by rw [List.length_map]; omega), List.getElem?_replicate] at e
      split at e <;> cases e
  dj := A.dj
  ow := fun i a h => by
    have hi := A.bd i a h
    exact (A.rp i _ _ (List.getElem?_eq_getElem hi) (List.getElem?_eq_getElem (by rw [← A.len]; exact hi))).own a h
  tb := b
theorem FinOk.of {N : List Str} {fin : List O} {vs : List V} {e : En} (S : Sim W G e σ H Fs) (hf : finL pr e = some fin) (p : Pr pr (L2.start N vs) σ) (hp : ∀ i ∈ pr, i < vs.length) (hn : pr.Nodup) : ∃ FB, FinOk W G H pr fin vs FB ∧ (∀ a, All FB a → All Fs a) := by
  refine ⟨fun j => match pr[j]? with
    | some i => Fs i
    | none => Emp, ⟨fun j i d v h1 h2 h3 => ?_, fun i j a hij h1 h2 => ?_⟩, fun a ⟨j, h⟩ => ?_⟩
  · show RpO W.C G H d v (match pr[j]? with | some i => Fs i | none => Emp)
    rw [h1]
    have g := finL_get hf h1 h2
    obtain ⟨w, hw, r⟩ := S.rp i d (gt_some g)
    have hi : i ∈ pr := List.mem_of_getElem? h1
    have := p.2 i hi
    rw [hw] at this
    unfold L2.start at this
    rw [List.getElem?_append_left (by rw [List.length_map]; exact hp i hi), List.getElem?_map, h3] at this
    have e : w = v := by simpa using this
    rw [← e]
    exact r
  · replace h1 : (match pr[i]? with | some i => Fs i | none => Emp) a := h1
    replace h2 : (match pr[j]? with | some i => Fs i | none => Emp) a := h2
    cases e1 : pr[i]? with
    | none => rw [e1] at h1; exact h1
    | some k =>
      rw [e1] at h1
      cases e2 : pr[j]? with
      | none => rw [e2] at h2; exact h2
      | some l =>
        rw [e2] at h2
        refine S.dj k l a (fun e => hij ?_) h1 h2
        subst e
        have hi := (List.getElem?_eq_some_iff.mp e1).1
        have hj := (List.getElem?_eq_some_iff.mp e2).1
        exact (List.getElem?_inj hi hn).mp (e1.trans e2.symm)
  · replace h : (match pr[j]? with | some i => Fs i | none => Emp) a := h
    cases e1 : pr[j]? with
    | none => rw [e1] at h; exact h.elim
    | some i => rw [e1] at h; exact ⟨i, h⟩
end
section
variable {P : Program} {w : World} {K : PySem.W.Frag} {mg : Str → Option Value} {base : Heap} {W : Wd}
theorem fn_okE {x qual : Str} {st : Stmt} {f : Addr} {fd : FuncData} {N ps : List Str} {k n m : Nat} {pr : List Nat} {g : En → RS} (F : Fun K x qual st f fd) (S : FnScope N ps (defScope st)) (hn : ps.length = n) (hm : N.length = m) (hp : ∀ i ∈ pr, i < n) (hnd : pr.Nodup)
    (body : ∀ (cdv : Value), fd.code = cdv → ∀ (A : Around) (outer : List Env) (s : Shared) (H : Hp) (E : XK), Room k (A.deeper (envOfC qual (defScope st) s.heap.objs.size f cdv)) →
      SSs (cxOf (L2.CX P w) P w K mg base N qual (defScope st) f cdv A outer s H E) W (fun cls d _ H' => E cls d H') pr g (defBody st)) : FnOk P w K mg base (L2.CX P w) (k + 1) f fd ps (spC W n pr (fnT n m pr g)) := by
  obtain ⟨oc, od, kV, doc, pm, an, cdv, ct, osl, rfl, lk, hcd⟩ := F.ex
  refine fn_of lk hcd S (fun vs H Q E h => ?_) fun A outer s H vs Q E hr h => ?_
  · obtain ⟨G, ds, FA, _, _, A, e, _⟩ := h
    rw [← A.len, e, hn]
  · obtain ⟨G, ds, FA, le, b, AA, e, q⟩ := h
    refine ⟨_, body cdv rfl A outer s H E hr (fnE m ds), ?_⟩
    have hv : ∀ i ∈ pr, i < vs.length := fun i hi => by rw [← AA.len, e]; exact hp i hi
    refine ⟨G, FA, by rw [← hm]; exact AA.sim le b, ?_⟩
    unfold fnT at q
    rw [if_pos e] at q
    unfold tbl at q
    cases e1 : g (fnE m ds) with
    | stk => rw [e1] at q; exact q
    | bk u => rw [e1] at q; exact q.elim
    | ct u => rw [e1] at q; exact q.elim
    | nx u =>
      rw [e1] at q
      dsimp only at q
      cases e2 : finL pr u with
      | none => rw [e2] at q; exact q.elim
      | some fin =>
        rw [e2] at q
        intro σ' G' H' Fs' s' S' p'
        obtain ⟨FB, FO, sub⟩ := FinOk.of S' e2 p' hv hnd
        exact q .non G' H' Emp FB (s'.wide (fun _ h => h) fun a h => .inr (h.elim (fun h => h.elim) (sub a))) (.sh' .non) FO fun _ h => h.elim
    | rt d u =>
      rw [e1] at q
      dsimp only at q
      cases e2 : finL pr u with
      | none => rw [e2] at q; exact q.elim
      | some fin =>
        rw [e2] at q
        intro v σ' G' H' F1 Fs' s' r' S' d' p'
        obtain ⟨FB, FO, sub⟩ := FinOk.of S' e2 p' hv hnd
        refine q v G' H' F1 FB (s'.wide (fun _ h => h) fun a h => .inr (h.imp id (sub a))) r' FO fun a h1 h2 => ?_
        obtain ⟨i, hi⟩ := sub a h2
        exact d' i a h1 hi
    | exc c u =>
      rw [e1] at q
      dsimp only at q
      cases e2 : finL pr u with
      | none => rw [e2] at q; exact q.elim
      | some fin =>
        rw [e2] at q
        intro σ' G' H' Fs' s' S' p'
        obtain ⟨FB, FO, sub⟩ := FinOk.of S' e2 p' hv hnd
        exact q G' H' FB (s'.wide (fun _ h => h) fun a h => .inr (sub a h)) FO
theorem fn_ok {x qual : Str} {st : Stmt} {f : Addr} {fd : FuncData} {N ps : List Str} {k n m : Nat} {pr : List Nat} {g : En → RS} (F : Fun K x qual st f fd) (S : FnScope N ps (defScope st)) (hn : ps.length = n) (hm : N.length = m) (hp : ∀ i ∈ pr, i < n) (hnd : pr.Nodup)
    (body : ∀ (cdv : Value) (A : Around) (outer : List Env) (s : Shared) (H : Hp) (E : XK), Room k (A.deeper (envOfC qual (defScope st) s.heap.objs.size f cdv)) →
      SSs (cxOf (L2.CX P w) P w K mg base N qual (defScope st) f cdv A outer s H E) W (fun cls d _ H' => E cls d H') pr g (defBody st)) : FnOk P w K mg base (L2.CX P w) (k + 1) f fd ps (spC W n pr (fnT n m pr g)) :=
  fn_okE F S hn hm hp hnd fun cdv _ => body cdv
end
end
end FD


set_option Elab.async false
set_option linter.all false
set_option maxRecDepth 100000
namespace FD
noncomputable section
open PySem PySem.Spec L2
open PyProof.Rows (envOfC)
section
variable {X : Cx} {W : Wd} {Wx : WX} {pr : List Nat} {G G' H H' : Hp} {env env' : En} {σ σ' : St} {Fs Fs' : Nat → Fp} {F F' : Fp}
def callP (T : List O → RC) (ds : List O) : RP := match allSh ds with
  | some _ => match T ds with
    | .ok d _ => .ok d
    | .exc c _ => .exc c ()
    | .stk => .stk
  | none => .stk
def bCall (T : List O → RC) (f : En → R Unit (List O)) : En → RP := fun env => (f env).bind (callP T)
theorem args_sh {ds : List D} {vs : List V} (r : RpL W G H (ds.map .sh) vs) : ArgsOk W G H (ds.map .sh) vs (fun _ => Emp) where
  len := Paired.length r
  rp := fun i d v h1 h2 => by
    obtain ⟨F1, r1⟩ := paired_get' r i d v h1 h2
    obtain ⟨x, _, rfl⟩ := get_sh h1
    exact .sh' (rp_sh r1)
  dj := fun _ _ _ _ h => h.elim
  bd := fun _ _ h => h.elim
theorem Step.all0 {F2 : Fp} (s : Step W G H (All fun _ => Emp) G' H' F2) : Step W G H Emp G' H' F2 := s.wide (fun _ ⟨_, h⟩ => h) fun _ h => .inr h
theorem callP_core {n : Nat} {T : List O → RC} {Q : VK} {ds : List O} {vs : List V} (hT : ∀ ds, (T ds) ≠ .stk → ds.length = n) (le : Sub G H) (b : TabOk W G H) (r : RpL W G H ds vs)
    (q : match callP T ds with
      | .ok d => ∀ v G' H' F1, Step W G H Emp G' H' F1 → RpO W.C G' H' d v F1 → Q v H'
      | .exc c _ => ∀ G' H', Step W G H Emp G' H' Emp → Wx (.ref (W.C.cls c)) none σ H'
      | .stk => False) : spC W n pr T vs H Q (WE Wx σ) := by
  unfold callP at q
  cases e0 : allSh ds with
  | none => rw [e0] at q; exact q.elim
  | some xs =>
    rw [e0] at q
    dsimp only at q
    have ed := allSh_some e0
    subst ed
    refine ⟨G, xs.map .sh, _, le, b, args_sh r, hT _ fun e => by rw [e] at q; exact q, ?_⟩
    cases e1 : T (xs.map .sh) with
    | stk => rw [e1] at q; exact q
    | ok d fin =>
      rw [e1] at q
      intro v G' H' F1 FB s r1 _ _
      exact q v G' H' F1 (s.all0.wide (fun _ h => h) fun a h => .inr (.inl h)) r1
    | exc c fin =>
      rw [e1] at q
      intro G' H' FB s _
      exact q G' H' (s.all0.wide (fun _ h => h) fun a h => .inl h)
theorem SV_call {k n : Nat} {f : Addr} {fd : FuncData} {ps : List Str} {T : List O → RC} {h : En → R Unit (List O)} {x : Str} {p pos : Pos} {e : Expr} {es : List Expr}
    (F : FnOk X.prog X.w X.K X.mg X.base (L2.CX X.prog X.w) k f fd ps (spC W n pr T)) (hT : ∀ ds, (T ds) ≠ .stk → ds.length = n) (hr : Room k X.A) (hg : Gl X x) (hm : X.mg x = some (.ref f)) (hk : PySem.W.keepIn X.K (.ref f) = true) (hb : Binds X.K fd ps []) (tk : Takes X Wx)
    (ha : SA X W Wx h (e :: es)) (hdb : (x == ("__debug__" : Str)) = false := by decide) (he : starEach (e :: es) X.env = (false, eval e X.env) :: starEach es X.env := by rfl) (hpl : (backTo pos (starEach es X.env)).any (·.1) = false := by rfl) :
    SV X W Wx (bCall T h) (.Call (.Name x p) (e :: es) [] pos) := fun env => (pe_callS F hr hg hm hk hb (fun σ => passAt tk σ) (ha env) hdb he hpl).imp fun σ H Q => by
  rintro ⟨G, Fs, S, q⟩
  refine ⟨G, Fs, S, ?_⟩
  unfold bCall at q
  cases e1 : h env with
  | stk => rw [e1] at q; exact q
  | exc c u => rw [e1] at q; exact q
  | ok ds =>
    rw [e1, bind_ok] at q
    intro vs G1 H1 s1 r1
    refine callP_core hT s1.le s1.b r1 ?_
    cases e2 : callP T ds with
    | stk => rw [e2] at q; exact q
    | ok d => rw [e2] at q; exact fun v G' H' F1 s r => q v G' H' F1 (s1.trans s) r
    | exc c u => rw [e2] at q; exact fun G' H' s => q G' H' (s1.trans s)

def insOf (c : Nat) (m : Str) : O → Bool
  | .sh (.ins c' fs) => decide (c' = c) && (fs.lookup m).isNone
  | .ins c' fs => decide (c' = c) && (fs.lookup m).isNone
  | _ => false
def bMeth (c : Nat) (m : Str) (T : List O → RC) (f : En → RP) (g : En → R Unit (List O)) : En → RP := fun env => (f env).bind fun x => if insOf c m x then (g env).bind fun ds => callP T (x :: ds) else .stk
def fldO (f : Str) : O → Option O
  | .sh (.ins c fs) => (fs.lookup f).map .sh
  | .ins c fs => fs.lookup f
  | _ => none
def insC : O → Option Nat
  | .sh (.ins c fs) => some c
  | .ins c fs => some c
  | _ => none
structure FldOk (K : PySem.W.Frag) (W : Wd) (f : Str) (cs : List Nat) : Prop where
  at_ : ∀ c ∈ cs, Cls K (W.C.cls c) ∧ NoAttr K (W.C.cls c) f
def bFldC (cs : List Nat) (f : Str) (g : En → RP) : En → RP := fun env => (g env).bind fun x => match insC x with
  | some c => if cs.contains c then ofO (fldO f x) else .stk
  | none => .stk
end
end
end FD


set_option Elab.async false
set_option linter.all false
set_option maxRecDepth 100000
namespace FD
noncomputable section
open PySem PySem.Spec L2
section
variable {X : Cx} {W : Wd} {Wx : WX} {pr : List Nat} {G G' H H' : Hp} {env env' : En} {σ σ' : St} {Fs Fs' : Nat → Fp} {F F' : Fp}
def cutG {α : Type} (xs : List α) (lo hi : Option Int) : List α := (xs.drop (HT.sIx xs.length 0 lo)).take (HT.sIx xs.length xs.length hi - HT.sIx xs.length 0 lo)
def wholeG (n : Nat) (lo hi : Option Int) : Bool := decide (HT.sIx n 0 lo = 0) && decide (HT.sIx n n hi = n)
theorem paired_drop {α β : Type} {R : α → β → Prop} : ∀ (n : Nat) {l : List α} {m : List β}, Paired R l m → Paired R (l.drop n) (m.drop n)
  | 0, _, _, h => h
  | _ + 1, _, _, .nil => .nil
  | n + 1, _, _, .cons _ t => paired_drop n t
theorem paired_take {α β : Type} {R : α → β → Prop} : ∀ (n : Nat) {l : List α} {m : List β}, Paired R l m → Paired R (l.take n) (m.take n)
  | 0, _, _, _ => .nil
  | _ + 1, _, _, .nil => .nil
  | n + 1, _, _, .cons r t => .cons r (paired_take n t)
theorem RpDs.cut {xs : List D} {vs : List V} (h : RpDs W G xs vs) (lo hi : Option Int) : RpDs W G (cutG xs lo hi) (cutV vs lo hi) := by
  unfold cutG cutV
  rw [h.length]
  exact paired_take _ (paired_drop _ h)
def oSl (x : O) (lo hi : Option Int) : Option O := match x with
  | .sh (.tup m xs) => some (.sh (if wholeG xs.length lo hi then .tup m xs else .tup false (cutG xs lo hi)))
  | x => (itemsD x).bind fun p => if p.1 then some (.lst ((cutG p.2 lo hi).map .sh)) else none
def tPt (W : Wd) (Wx : WX) (env : En) (r : R Unit (Option Int)) : TO := fun σ H Q => ∃ G Fs, Sim W G env σ H Fs ∧ match r with
  | .ok o => ∀ G' H', Step W G H Emp G' H' Emp → Q o H'
  | .exc c _ => ∀ G' H', Step W G H Emp G' H' Emp → Wx (.ref (W.C.cls c)) none σ H'
  | .stk => False
def SO (X : Cx) (W : Wd) (Wx : WX) (f : En → R Unit (Option Int)) (e : Option Expr) : Prop := ∀ env, PO X e (tPt W Wx env (f env))
theorem _root_.L2.PO.imp {e : Option Expr} {t t' : TO} (h : PO X e t) (hi : ∀ σ H Q, t' σ H Q → t σ H Q) : PO X e t' := ⟨fun pins s σ H Q I q => h.run pins s σ H Q I (hi σ H Q q)⟩
def pNo : En → R Unit (Option Int) := fun _ => .ok none
def pI (f : En → RP) : En → R Unit (Option Int) := fun env => (f env).bind fun x => ofO ((asI x).map some)
theorem SO_no : SO X W Wx pNo none := fun env => po_none.imp fun σ H Q => by
  rintro ⟨G, Fs, S, q⟩
  exact q G H S.refl
theorem SO_some {f : En → RP} {e : Expr} (h : SP X W Wx f e) : SO X W Wx (pI f) (some e) := fun env => (po_some (h env)).imp fun σ H Q => by
  rintro ⟨G, Fs, S, q⟩
  refine ⟨G, Fs, S, ?_⟩
  unfold pI at q
  cases e1 : f env with
  | stk => rw [e1] at q; exact q
  | exc c u => rw [e1] at q; exact q
  | ok x =>
    rw [e1, bind_ok] at q
    intro v G1 H1 F1 s1 r1
    cases e2 : asI x with
    | none => rw [e2] at q; exact q.elim
    | some i =>
      rw [e2] at q
      rw [asI_some e2] at r1
      exact ⟨i, rp_int r1, q G1 H1 s1⟩
def bSl (f : En → RP) (l h : En → R Unit (Option Int)) : En → RP := fun env => (f env).bind fun x => (l env).bind fun a => (h env).bind fun b => ofO (oSl x a b)
def rSl2 (K : PySem.W.Frag) : V → Option Int → Option Int → Hp → VK → Prop := fun x lo hi H Q => rSlL K x lo hi H Q ∨ rSlA K x lo hi H Q
theorem oSl_ok {K : PySem.W.Frag} {x z : O} {lo hi : Option Int} {v : V} {F1 : Fp} {Q : VK} (le : Sub G H) (b : TabOk W G H) (r : RpO W.C G H x v F1) (e : oSl x lo hi = some z) (q : ∀ w G' H' F', Step W G H Emp G' H' F' → RpO W.C G' H' z w F' → Q w H') : rSl2 K v lo hi H Q := by
  unfold oSl at e
  split at e
  · rename_i m xs
    cases e
    have r' := rp_sh r
    cases r' with
    | @tup _ _ p vs h1 h2 h3 =>
      have hs := paired_of h2 h3
      refine .inr ⟨p, vs, rfl, .inl (Rd.sub le h1.rd), fun hw => ?_, fun hw p' hp' => ?_⟩
      · have : wholeG xs.length lo hi = true := by unfold wholeG; rw [h2, decide_eq_true hw.1, decide_eq_true hw.2]; rfl
        rw [this, if_pos rfl] at q
        exact q _ G H Emp (Step.refl le b) (.sh' (.tup h1 h2 h3))
      · have : wholeG xs.length lo hi = false := by
          unfold wholeG
          rw [h2]
          by_cases h : HT.sIx vs.length 0 lo = 0
          · rw [decide_eq_true h, decide_eq_false fun h' => hw ⟨h, h'⟩]; rfl
          · rw [decide_eq_false h]; rfl
        rw [this, if_neg (by decide)] at q
        refine q _ _ _ Emp (step_sh le b hp') (.sh' (RpDs.tup upd_same ?_))
        exact (RpDs.cut (W := W) (G := G) hs lo hi).sub (sub_upd (none_of_le le hp'))
  · cases e1 : itemsD x with
    | none => rw [e1] at e; cases e
    | some p =>
      obtain ⟨bb, ds⟩ := p
      rw [e1, Option.bind_some] at e
      cases bb with
      | false => cases e
      | true =>
        cases e
        obtain ⟨p, ws, rfl, hs, hp⟩ := itemsD_some (K := K) le r e1
        refine .inl ⟨p, ws, rfl, by simpa using hs, fun p' hp' => ?_⟩
        exact q _ _ _ _ (step_own le b hp') (RpDs.own (none_of_le le hp') upd_same (RpDs.cut hp lo hi))
theorem SV_slice {f : En → RP} {l h : En → R Unit (Option Int)} {e : Expr} {lo hi : Option Expr} {pos p2 : Pos} (he : SP X W Wx f e) (hl : SO X W Wx l lo) (hh : SO X W Wx h hi) : SV X W Wx (bSl f l h) (.Subscript e (.Slice lo hi none p2) pos) := fun env =>
  (pe_slice (r := rSl2 X.K) (SlR.or sl_list sl_tupA) (he env) (hl env) (hh env)).imp fun σ H Q => by
    rintro ⟨G, Fs, S, q⟩
    refine ⟨G, Fs, S, ?_⟩
    unfold bSl at q
    cases e1 : f env with
    | stk => rw [e1] at q; exact q
    | exc c u => rw [e1] at q; exact q
    | ok x =>
      rw [e1, bind_ok] at q
      intro v G1 H1 F1 s1 r1
      refine ⟨G1, Fs, S.step0 s1, ?_⟩
      cases e2 : l env with
      | stk => rw [e2] at q; exact q
      | exc c u => rw [e2] at q; exact fun G' H' s => q G' H' (s1.trans s)
      | ok a =>
        rw [e2, bind_ok] at q
        intro G2 H2 s2
        refine ⟨G2, Fs, (S.step0 s1).step0 s2, ?_⟩
        cases e3 : h env with
        | stk => rw [e3] at q; exact q
        | exc c u => rw [e3] at q; exact fun G' H' s => q G' H' ((s1.trans s2).trans s)
        | ok b =>
          rw [e3, bind_ok] at q
          intro G3 H3 s3
          cases e4 : oSl x a b with
          | none => rw [e4] at q; exact q.elim
          | some z =>
            rw [e4] at q
            exact oSl_ok s3.le s3.b ((r1.step0 s2).step0 s3) e4 fun w G' H' F' s r => q w G' H' F' (((s1.trans s2).trans s3).trans s) r

def bTup (f : En → R Unit (List O)) : En → RP := fun env => (f env).bind fun xs => ofO ((allSh xs).bind fun ds => if szOk ds.length then some (.sh (.tup false ds)) else none)
def bLst (f : En → R Unit (List O)) : En → RP := fun env => (f env).bind fun xs => ofO ((allSh xs).bind fun ds => if szOk ds.length then some (.lst (ds.map .sh)) else none)
theorem RpL.ds {xs : List O} {vs : List V} {ds : List D} (r : RpL W G H xs vs) (e : allSh xs = some ds) : RpDs W G ds vs := by
  rw [allSh_some e] at r
  exact RpDs.of r
theorem SV_tup {f : En → R Unit (List O)} {es : List Expr} {x1} {pos : Pos} (h : SA X W Wx f es) : SV X W Wx (bTup f) (.Tuple es x1 pos) := fun env => (pe_tup (h env)).imp fun σ H Q => by
  rintro ⟨G, Fs, S, q⟩
  refine ⟨G, Fs, S, ?_⟩
  unfold bTup at q
  cases e1 : f env with
  | stk => rw [e1] at q; exact q
  | exc c u => rw [e1] at q; exact q
  | ok xs =>
    rw [e1, bind_ok] at q
    intro vs G1 H1 s1 r1
    cases e2 : allSh xs with
    | none => rw [e2] at q; exact q.elim
    | some ds =>
      rw [e2, Option.bind_some] at q
      have hd := r1.ds e2
      cases hz : szOk ds.length with
      | false => rw [hz, if_neg (by decide)] at q; exact q.elim
      | true =>
        rw [hz, if_pos rfl] at q
        refine ⟨by rw [← hd.length]; exact szOk_sz hz, fun p hp => ?_⟩
        exact q _ _ _ Emp (s1.trans (step_sh s1.le s1.b hp)) (.sh' (RpDs.tup upd_same (hd.sub (sub_upd (none_of_le s1.le hp)))))
theorem SV_lst {f : En → R Unit (List O)} {es : List Expr} {pos : Pos} (h : SA X W Wx f es) : SV X W Wx (bLst f) (.List es pos) := fun env => (pe_lst (h env)).imp fun σ H Q => by
  rintro ⟨G, Fs, S, q⟩
  refine ⟨G, Fs, S, ?_⟩
  unfold bLst at q
  cases e1 : f env with
  | stk => rw [e1] at q; exact q
  | exc c u => rw [e1] at q; exact q
  | ok xs =>
    rw [e1, bind_ok] at q
    intro vs G1 H1 s1 r1
    cases e2 : allSh xs with
    | none => rw [e2] at q; exact q.elim
    | some ds =>
      rw [e2, Option.bind_some] at q
      have hd := r1.ds e2
      cases hz : szOk ds.length with
      | false => rw [hz, if_neg (by decide)] at q; exact q.elim
      | true =>
        rw [hz, if_pos rfl] at q
        refine ⟨by rw [← hd.length]; exact szOk_sz hz, fun p hp => ?_⟩
        exact q _ _ _ _ (s1.trans (step_own s1.le s1.b hp)) (RpDs.own (none_of_le s1.le hp) upd_same hd)

def oAbs : List O → Option O
  | [x] => (asI x).bind fun i => some (.sh (.int (if i < 0 then -i else i)))
  | _ => none
theorem opN_1 {r : List V → Hp → VK → Prop} {go : List O → Option O} (h1 : ∀ xs z, go xs = some z → ∃ x, xs = [x]) (h : ∀ (G H : Hp) (x z : O) (v : V) (F1 : Fp) (Q : VK), Sub G H → TabOk W G H → RpO W.C G H x v F1 → go [x] = some z →
    (∀ w G' H' F', Step W G H Emp G' H' F' → RpO W.C G' H' z w F' → Q w H') → r [v] H Q) : OpN W r go := by
  intro G H xs z vs Q le b rl e q
  obtain ⟨x, rfl⟩ := h1 xs z e
  cases rl with
  | cons r1 r2 =>
    cases r2
    obtain ⟨F1, r1⟩ := r1
    exact h G H x z _ F1 Q le b r1 e q
theorem v_abs : CallR X (.builtin "abs") (fun xs H Q => ∃ i, xs = [.int i] ∧ Q (.int (if i < 0 then -i else i)) H) ∧ OpN W (fun xs H Q => ∃ i, xs = [.int i] ∧ Q (.int (if i < 0 then -i else i)) H) oAbs := by
  refine ⟨call_abs, opN_1 (fun xs z h => ?_) fun G H x z v F1 Q le b r e q => ?_⟩
  · unfold oAbs at h
    split at h
    · exact ⟨_, rfl⟩
    · cases h
  · cases e1 : asI x with
    | none => rw [show oAbs [x] = (asI x).bind _ from rfl, e1] at e; cases e
    | some i =>
      rw [show oAbs [x] = (asI x).bind _ from rfl, e1] at e
      cases e
      rw [asI_some e1] at r
      exact ⟨i, by rw [rp_int r], q _ G H Emp (Step.refl le b) (.sh' (.int _))⟩
def oInt : List O → Option O
  | [.sh (.int i)] => some (.sh (.int i))
  | [.sh (.bl k)] => some (.sh (.int (if k then 1 else 0)))
  | _ => none
theorem v_int1 : CallR X (.type "int") (fun xs H Q => (∃ i, xs = [.int i] ∧ Q (.int i) H) ∨ ∃ k, xs = [.bl k] ∧ Q (.int (if k then 1 else 0)) H) ∧ OpN W (fun xs H Q => (∃ i, xs = [.int i] ∧ Q (.int i) H) ∨ ∃ k, xs = [.bl k] ∧ Q (.int (if k then 1 else 0)) H) oInt := by
  refine ⟨call_int1, opN_1 (fun xs z h => ?_) fun G H x z v F1 Q le b r e q => ?_⟩
  · unfold oInt at h
    split at h
    · exact ⟨_, rfl⟩
    · exact ⟨_, rfl⟩
    · cases h
  · unfold oInt at e
    split at e
    · rename_i e0
      cases e0
      cases e
      exact .inl ⟨_, by rw [rp_int r], q _ G H Emp (Step.refl le b) (.sh' (.int _))⟩
    · rename_i e0
      cases e0
      cases e
      have r' := rp_sh r
      cases r'
      exact .inr ⟨_, rfl, q _ G H Emp (Step.refl le b) (.sh' (.int _))⟩
    · cases e
def intsD : List D → Option (List Int)
  | [] => some []
  | .int i :: r => (intsD r).map (i :: ·)
  | _ => none
theorem intsD_some : ∀ {ds : List D} {ns : List Int}, intsD ds = some ns → ds = ns.map .int
  | [], ns, h => by cases h; rfl
  | .int i :: r, ns, h => by
    unfold intsD at h
    cases e : intsD r with
    | none => rw [e] at h; cases h
    | some ms =>
      rw [e] at h
      cases h
      rw [intsD_some e]; rfl
  | .non :: _, _, h => by cases h
  | .bl _ :: _, _, h => by cases h
  | .str _ :: _, _, h => by cases h
  | .tup _ _ :: _, _, h => by cases h
  | .lst _ :: _, _, h => by cases h
  | .frl _ :: _, _, h => by cases h
  | .dK _ :: _, _, h => by cases h
  | .dT _ :: _, _, h => by cases h
  | .ins _ _ :: _, _, h => by cases h
@[simp] theorem intsD_map : ∀ ns : List Int, intsD (ns.map .int) = some ns
  | [] => rfl
  | i :: r => by show (intsD (r.map .int)).map (i :: ·) = _; rw [intsD_map r]; rfl
theorem ints_vals {ns : List Int} {vs : List V} (h : RpDs W G (ns.map .int) vs) : vs = ns.map V.int := by
  induction ns generalizing vs with
  | nil => cases h; rfl
  | cons n r ih =>
    cases h with
    | cons h1 h2 =>
      cases h1
      rw [ih h2]; rfl
theorem ints_rp (ns : List Int) : RpDs W G (ns.map .int) (ns.map V.int) := by
  induction ns with
  | nil => exact .nil
  | cons n r ih => exact .cons (.int n) ih
theorem shI (ns : List Int) : (ns.map fun i => O.sh (.int i)) = (ns.map D.int).map O.sh := by rw [List.map_map]; rfl
section
variable {κ : Type} [DecidableEq κ]
def putG {α : Type} (kvs : List (κ × α)) (k : κ) (v : α) : List (κ × α) := if (kvs.any fun kv => decide (kv.1 = k)) = true then kvs.map (fun kv => if kv.1 = k then (kv.1, v) else kv) else kvs ++ [(k, v)]
def mergeG {α : Type} (kvs more : List (κ × α)) : List (κ × α) := more.foldl (fun acc kv => putG acc kv.1 kv.2) kvs
def KVD {α β : Type} (R : α → β → Prop) (xs : List (κ × α)) (ys : List (κ × β)) : Prop := Paired (fun p q => p.1 = q.1 ∧ R p.2 q.2) xs ys
theorem KVD.any {α β : Type} {R : α → β → Prop} {xs : List (κ × α)} {ys : List (κ × β)} (h : KVD R xs ys) (k : κ) : (xs.any fun kv => decide (kv.1 = k)) = (ys.any fun kv => decide (kv.1 = k)) := by
  unfold KVD at h
  induction h with
  | nil => rfl
  | cons r _ ih => rw [List.any_cons, List.any_cons, ih, r.1]
theorem KVD.mapPut {α β : Type} {R : α → β → Prop} {k : κ} {a : α} {b : β} (r : R a b) : ∀ {xs : List (κ × α)} {ys : List (κ × β)}, KVD R xs ys → KVD R (xs.map (fun kv => if kv.1 = k then (kv.1, a) else kv)) (ys.map (fun kv => if kv.1 = k then (kv.1, b) else kv))
  | _, _, .nil => .nil
  | _, _, .cons (a := p) (b := q) h1 h2 => by
    refine .cons ?_ (KVD.mapPut r h2)
    obtain ⟨h1, h3⟩ := h1
    by_cases e : p.1 = k
    · dsimp only; rw [if_pos e, if_pos (by rw [← h1]; exact e)]; exact ⟨h1, r⟩
    · dsimp only; rw [if_neg e, if_neg (by rw [← h1]; exact e)]; exact ⟨h1, h3⟩
theorem KVD.app {α β : Type} {R : α → β → Prop} {k : κ} {a : α} {b : β} (r : R a b) : ∀ {xs : List (κ × α)} {ys : List (κ × β)}, KVD R xs ys → KVD R (xs ++ [(k, a)]) (ys ++ [(k, b)])
  | _, _, .nil => .cons ⟨rfl, r⟩ .nil
  | _, _, .cons h1 h2 => .cons h1 (KVD.app r h2)
theorem KVD.put {α β : Type} {R : α → β → Prop} {xs : List (κ × α)} {ys : List (κ × β)} {k : κ} {a : α} {b : β} (h : KVD R xs ys) (r : R a b) : KVD R (putG xs k a) (putG ys k b) := by
  unfold putG
  rw [h.any k]
  split
  · exact h.mapPut r
  · exact h.app r
theorem KVD.merge {α β : Type} {R : α → β → Prop} : ∀ {zs : List (κ × α)} {ws : List (κ × β)} {xs : List (κ × α)} {ys : List (κ × β)}, KVD R zs ws → KVD R xs ys → KVD R (mergeG xs zs) (mergeG ys ws) := by
  intro zs ws xs ys h
  unfold KVD at h
  induction h generalizing xs ys with
  | nil => intro h; exact h
  | @cons p q ps qs h1 h2 ih =>
    intro h
    obtain ⟨e, r⟩ := h1
    show KVD R (mergeG (putG xs p.1 p.2) ps) (mergeG (putG ys q.1 q.2) qs)
    rw [e]
    exact ih (h.put r)
theorem KVD.keys {α β : Type} {R : α → β → Prop} {xs : List (κ × α)} {ys : List (κ × β)} (h : KVD R xs ys) : xs.map (·.1) = ys.map (·.1) := by
  unfold KVD at h
  induction h with
  | nil => rfl
  | cons r _ ih => rw [List.map_cons, List.map_cons, ih, r.1]
theorem KVD.vals {α β : Type} {R : α → β → Prop} {xs : List (κ × α)} {ys : List (κ × β)} (h : KVD R xs ys) : Paired R (xs.map (·.2)) (ys.map (·.2)) := by
  unfold KVD at h
  induction h with
  | nil => exact .nil
  | cons r _ ih => exact .cons r.2 ih
end
theorem mergeK_mergeG (kvs more : List (Key × V)) : mergeK kvs more = mergeG kvs more := rfl
def pairD : D → Option (Key × D)
  | .tup _ [k, d] => (keyD k).map fun q => (q, d)
  | _ => none
def pairsD : List D → Option (List (Key × D))
  | [] => some []
  | d :: ds => (pairD d).bind fun p => (pairsD ds).map (p :: ·)
theorem pairsD_some {K : PySem.W.Frag} (le : Sub G H) : ∀ {ds : List D} {kds : List (Key × D)} {vs : List V}, RpDs W G ds vs → pairsD ds = some kds →
    ∃ (ps : List Addr) (kvs : List (Key × V)), vs = ps.map V.ref ∧ Paired (fun p kv => SqT K H p [kV kv.1, kv.2]) ps kvs ∧ KVD (fun d v => RpD W.C G d v) kds kvs := by
  intro ds
  induction ds with
  | nil =>
    intro kds vs r e
    cases r
    cases e
    exact ⟨[], [], rfl, .nil, .nil⟩
  | cons d ds ih =>
    intro kds vs r e
    cases r with
    | @cons _ v _ us r1 r2 =>
      rw [pairsD] at e
      cases e1 : pairD d with
      | none => rw [e1] at e; cases e
      | some p =>
        rw [e1, Option.bind_some] at e
        cases e2 : pairsD ds with
        | none => rw [e2] at e; cases e
        | some ks =>
          rw [e2] at e
          cases e
          obtain ⟨ps, kvs, rfl, h1, h2⟩ := ih r2 e2
          unfold pairD at e1
          split at e1
          · rename_i m k x
            cases e3 : keyD k with
            | none => rw [e3] at e1; cases e1
            | some q =>
              rw [e3] at e1
              cases e1
              cases r1 with
              | @tup _ _ a ws t1 t2 t3 =>
                have hw := paired_of t2 t3
                cases hw with
                | @cons _ u _ _ w1 w2 =>
                  cases w2 with
                  | @cons _ u2 _ _ w2 w3 =>
                    cases w3
                    refine ⟨a :: ps, (q, u2) :: kvs, rfl, .cons ?_ h1, .cons ⟨rfl, w2⟩ h2⟩
                    have ek := keyD_some w1 e3
                    rw [ek] at t1
                    exact .inl (Rd.sub le t1.rd)
          · cases e1
def oDict : List O → Option O
  | [x] => (itemsD x).bind fun p => if p.1 then (pairsD p.2).bind fun ks => some (.dK ((mergeG [] ks).map fun q => (q.1, .sh q.2))) else none
  | _ => none
theorem RpD.ownK {xs : List (Key × D)} {vs : List (Key × V)} {p : Addr} (g : G p = none) (r : H p = some (.dK vs)) (h : KVD (fun d v => RpD W.C G d v) xs vs) : RpO W.C G H (.dK (xs.map fun q => (q.1, .sh q.2))) (.ref p) (fun a => a = p) := by
  refine .dK (fun _ => Emp) g r (by rw [List.map_map]; exact h.keys) (fun i d v e1 e2 => ?_) (fun _ _ _ _ h => h.elim) (fun _ _ h => h.elim) fun a => ⟨fun h => .inl h, fun h => h.elim id fun ⟨_, h⟩ => h.elim⟩
  obtain ⟨x, q, rfl⟩ := get_map2 e1
  exact .sh' (paired_get' h.vals i x v q e2)
theorem v_dict (hc : X.calm = true) : CallR X (.type "dict") (fun xs H Q => ∃ (a : Addr) (ps : List Addr) (kvs : List (Key × V)), xs = [.ref a] ∧ SqL X.K H a (ps.map V.ref) ∧ Paired (fun p kv => SqT X.K H p [kV kv.1, kv.2]) ps kvs ∧ ∀ p, H p = none → Q (.ref p) (upd H p (.dK (mergeK [] kvs)))) ∧
    OpN W (fun xs H Q => ∃ (a : Addr) (ps : List Addr) (kvs : List (Key × V)), xs = [.ref a] ∧ SqL X.K H a (ps.map V.ref) ∧ Paired (fun p kv => SqT X.K H p [kV kv.1, kv.2]) ps kvs ∧ ∀ p, H p = none → Q (.ref p) (upd H p (.dK (mergeK [] kvs)))) oDict := by
  refine ⟨call_dictP hc, opN_1 (fun xs z h => ?_) fun G H x z v F1 Q le b r e q => ?_⟩
  · unfold oDict at h
    split at h
    · exact ⟨_, rfl⟩
    · cases h
  · replace e : ((itemsD x).bind fun p => if p.1 then (pairsD p.2).bind fun ks => some (O.dK ((mergeG [] ks).map fun q => (q.1, .sh q.2))) else none) = some z := e
    cases e1 : itemsD x with
    | none => rw [e1] at e; cases e
    | some p =>
      obtain ⟨bb, ds⟩ := p
      rw [e1, Option.bind_some] at e
      cases bb with
      | false => cases e
      | true =>
        rw [if_pos rfl] at e
        cases e2 : pairsD ds with
        | none => rw [show pairsD (true, ds).2 = none from e2] at e; cases e
        | some ks =>
          rw [show pairsD (true, ds).2 = some ks from e2] at e
          cases e
          obtain ⟨p, ws, rfl, hs, hp⟩ := itemsD_some (K := X.K) le r e1
          obtain ⟨ps, kvs, rfl, h1, h2⟩ := pairsD_some (K := X.K) le hp e2
          refine ⟨p, ps, kvs, rfl, by simpa using hs, h1, fun p' hp' => ?_⟩
          exact q _ _ _ _ (step_own le b hp') (RpD.ownK (none_of_le le hp') upd_same (by rw [mergeK_mergeG]; exact KVD.merge h2 .nil))
end
end
end FD


set_option Elab.async false
set_option linter.all false
set_option maxRecDepth 100000
namespace FD
noncomputable section
open PySem PySem.Spec L2
section
variable {X : Cx} {W : Wd} {Wx : WX} {pr : List Nat} {G G' H H' : Hp} {env env' : En} {σ σ' : St} {Fs Fs' : Nat → Fp} {F F' : Fp}
theorem own_after {G1 H1 G2 H2 : Hp} {Fs1 : Nat → Fp} {e1 : En} (S1 : Sim W G1 e1 σ H1 Fs1) (s : Step W G1 H1 Emp G2 H2 F) (st : Step W G H (All Fs) G1 H1 (fun a => F' a ∨ All Fs1 a)) :
    Step W G H (All Fs) G2 H2 (fun a => F a ∨ All Fs1 a) ∧ Sim W G2 e1 σ H2 Fs1 ∧ (∀ i a, F a → ¬ Fs1 i a) := by
  refine ⟨st.trans (s.wide (fun _ h => h.elim) fun a h => h.elim .inr fun h => .inl (.inr h)), S1.step0 s, fun i a h1 h2 => ?_⟩
  obtain ⟨_, o, hh, _⟩ := S1.ow i a h2
  rcases s.f a h1 with z | z
  · exact z
  · rw [hh] at z; cases z
def eOp2 (go : O → O → Option O) (f g : En → RE) : En → RE := fun env => (f env).bind fun p => (g p.2).bind fun q => match go p.1 q.1 with
  | some z => .ok (z, q.2)
  | none => .stk
def eOp2v (go : O → O → Option O) (i : Nat) (g : En → RE) : En → RE := fun env => match gt env i with
  | none => .stk
  | some _ => (g env).bind fun q => match (gt q.2 i).bind fun x => go x q.1 with
    | some z => .ok (z, q.2)
    | none => .stk
theorem eop2_core {ta tb : TE} {r : R2} {go : O → O → Option O} {f g : En → RE} (ho : Op2 W r go) {Q : VK} (ha : ∀ Q', tE W Wx env (f env) σ H Q' → ta σ H Q') (hb : ∀ e H' Q', tE W Wx e (g e) σ H' Q' → tb σ H' Q')
    (q : tE W Wx env (eOp2 go f g env) σ H Q) : tOp r ta tb σ H Q := by
  obtain ⟨G, Fs, S, q⟩ := q
  refine ha _ ⟨G, Fs, S, ?_⟩
  unfold eOp2 at q
  cases e1 : f env with
  | stk => rw [e1] at q; exact q
  | exc c u => rw [e1] at q; exact q
  | ok p =>
    obtain ⟨x, e2⟩ := p
    rw [e1, bind_ok] at q
    intro v G1 H1 F1 Fs1 s1 r1 S1 d1
    refine hb e2 _ _ ⟨G1, Fs1, S1, ?_⟩
    dsimp only at q
    have dd : ∀ a, F1 a → ¬ All Fs1 a := fun a h1 ⟨i, h2⟩ => d1 i a h1 h2
    cases e3 : g e2 with
    | stk => rw [e3] at q; exact q
    | exc c u => rw [e3] at q; exact fun G' H' Fs' s S' => q G' H' Fs' (s1.trans (s.wide (fun _ h => .inr h) fun _ h => .inr h)) S'
    | ok p =>
      obtain ⟨y, e4⟩ := p
      rw [e3, bind_ok] at q
      intro u G2 H2 F2 Fs2 s2 r2 S2 d2
      dsimp only at q
      have st2 : Step W G H (All Fs) G2 H2 (fun a => F2 a ∨ All Fs2 a) := s1.trans (s2.wide (fun _ h => .inr h) fun a h => .inr h)
      cases e5 : go x y with
      | none => rw [e5] at q; exact q.elim
      | some z =>
        rw [e5] at q
        refine ho G2 H2 x y z v u F1 F2 Q s2.le s2.b (r1.step s2 dd) r2 e5 fun w G' H' F' s r => ?_
        obtain ⟨a1, a2, a3⟩ := own_after S2 s st2
        exact q w G' H' F' Fs2 a1 r a2 a3
theorem eop2v_core {tb : TE} {r : R2} {go : O → O → Option O} {i : Nat} {g : En → RE} (ho : Op2 W r go) {Q : VK} (hb : ∀ e H' Q', tE W Wx e (g e) σ H' Q' → tb σ H' Q')
    (q : tE W Wx env (eOp2v go i g env) σ H Q) : tOp r (tVar i) tb σ H Q := by
  obtain ⟨G, Fs, S, q⟩ := q
  unfold eOp2v at q
  cases e0 : gt env i with
  | none => rw [e0] at q; exact q.elim
  | some x0 =>
    rw [e0] at q
    obtain ⟨v, h1, _⟩ := S.rp i x0 (gt_some e0)
    refine ⟨v, h1, hb env _ _ ⟨G, Fs, S, ?_⟩⟩
    dsimp only at q
    cases e3 : g env with
    | stk => rw [e3] at q; exact q
    | exc c u => rw [e3] at q; exact q
    | ok p =>
      obtain ⟨y, e4⟩ := p
      rw [e3, bind_ok] at q
      intro u G2 H2 F2 Fs2 s2 r2 S2 d2
      dsimp only at q
      cases e5 : gt e4 i with
      | none => rw [e5] at q; exact q.elim
      | some x =>
        rw [e5, Option.bind_some] at q
        obtain ⟨v', h2, r1⟩ := S2.rp i x (gt_some e5)
        rw [h1] at h2
        cases h2
        cases e6 : go x y with
        | none => rw [e6] at q; exact q.elim
        | some z =>
          rw [e6] at q
          refine ho G2 H2 x y z v u _ F2 Q s2.le s2.b r1 r2 e6 fun w G' H' F' s r => ?_
          obtain ⟨a1, a2, a3⟩ := own_after S2 s s2
          exact q w G' H' F' Fs2 a1 r a2 a3
theorem SE_op {op : Operator} {r : R2} {go : O → O → Option O} {f g : En → RE} {a b : Expr} {pos : Pos} (hr : OpR X (binaryOp op) r) (ho : Op2 W r go) (ha : SE X W Wx f a) (hb : SE X W Wx g b) : SE X W Wx (eOp2 go f g) (.BinOp a op b pos) :=
  fun env => (pe_op hr (ha env) (PE_any hb)).imp fun σ H Q q => eop2_core ho (fun _ h => h) (fun e _ _ h => ⟨e, h⟩) q
theorem SE_ixv (i : Nat) {r : R2} {go : O → O → Option O} {g : En → RE} {x : Str} {pos' : Pos} {b : Expr} {pos : Pos} (hr : IxR X r) (ho : Op2 W r go) (hb : SE X W Wx g b) (hs : PlainIx b) (hN : X.N[i]? = some x := by rfl) (hv : Vis X.env.scope x := by first | exact Or.inl rfl | exact Or.inr (Or.inl rfl) | exact Or.inr (Or.inr rfl)) (hd : (x == ("__debug__" : Str)) = false := by decide)
    (hcd : (x == ("__classdict__" : Str)) = false := by decide) : SE X W Wx (eOp2v go i g) (.Subscript (.Name x pos') b pos) :=
  fun env => (pe_ix hr (pe_var hN hv hd hcd) (PE_any hb) hs).imp fun σ H Q q => eop2v_core ho (fun e _ _ h => ⟨e, h⟩) q
def e1 (go : List O → Option O) (f : En → RE) : En → RE := fun env => (f env).bind fun p => match go [p.1] with
  | some z => .ok (z, p.2)
  | none => .stk
theorem e1_core {ta : TE} {r : List V → Hp → VK → Prop} {go : List O → Option O} {f : En → RE} (ho : OpN W r go) {Q : VK} (ha : ∀ Q', tE W Wx env (f env) σ H Q' → ta σ H Q') (q : tE W Wx env (e1 go f env) σ H Q) : tCB r (tCons ta tNil) σ H Q := by
  obtain ⟨G, Fs, S, q⟩ := q
  refine ha _ ⟨G, Fs, S, ?_⟩
  unfold FD.e1 at q
  cases e1 : f env with
  | stk => rw [e1] at q; exact q
  | exc c u => rw [e1] at q; exact q
  | ok p =>
    obtain ⟨x, e2⟩ := p
    rw [e1, bind_ok] at q
    intro v G1 H1 F1 Fs1 s1 r1 S1 d1
    dsimp only at q
    cases e3 : go [x] with
    | none => rw [e3] at q; exact q.elim
    | some z =>
      rw [e3] at q
      refine ho G1 H1 [x] z [v] Q s1.le s1.b (.cons ⟨F1, r1⟩ .nil) e3 fun w G' H' F' s r => ?_
      obtain ⟨a1, a2, a3⟩ := own_after S1 s s1
      exact q w G' H' F' Fs1 a1 r a2 a3
def uV (f : En → RE) : En → R En (Bool × En) := fun env => (f env).bind fun p => match asB p.1 with
  | some b => .ok (b, p.2)
  | none => .stk
theorem froz_all {ds : List O} {vs : List V} {FA : Nat → Fp} (A : ArgsOk W G H ds vs FA) (le : Sub G H) : RpDs W (addG G H (All FA)) (ds.map O.frz) vs := by
  have hs : Sub G (addG G H (All FA)) := fun a o h => by
    unfold addG
    split
    · exact le a o h
    · exact h
  refine paired_of (by rw [List.length_map]; exact A.len) fun i d v e1 e2 => ?_
  rw [List.getElem?_map] at e1
  cases e3 : ds[i]? with
  | none => rw [e3] at e1; cases e1
  | some x =>
    rw [e3] at e1
    cases e1
    exact (A.rp i x v e3 e2).froz hs fun a ha => by unfold addG; rw [if_pos ⟨i, ha⟩]
theorem ArgsOk.own {ds : List O} {vs : List V} {FA : Nat → Fp} (A : ArgsOk W G H ds vs FA) : ∀ a, All FA a → ∃ o, H a = some o ∧ NoTbl o := fun a ⟨i, h⟩ => by
  have hi := A.bd i a h
  exact ((A.rp i _ _ (List.getElem?_eq_getElem hi) (List.getElem?_eq_getElem (by rw [← A.len]; exact hi))).own a h).2
theorem addG_all (s : Step W G H F G' H' (fun a => F' a ∨ All Fs a)) (hn : ∀ a, F' a → ∃ o, H' a = some o ∧ NoTbl o) : Step W G H F (addG G' H' F') H' (All Fs) := by
  have hs : Sub G' (addG G' H' F') := fun a o h => by
    unfold addG
    split
    · exact s.le a o h
    · exact h
  refine ⟨fun a o h => hs a o (s.g a o h), s.h, s.t, fun a h => ?_, fun a h => s.f a (.inr h), fun a o h => ?_, addG_tab s.b hn⟩
  · unfold addG at h
    split at h
    · rename_i hf
      rcases s.f a (.inl hf) with z | z
      · exact .inr (.inl z)
      · exact .inr (.inr z)
    · exact s.n a h
  · unfold addG at h
    split at h
    · exact h
    · exact s.le a o h
def eTup (f : En → R En (List O × En)) : En → RE := fun env => (f env).bind fun p => if szOk p.1.length then .ok (.sh (.tup false (p.1.map O.frz)), p.2) else .stk
def eLst (f : En → R En (List O × En)) : En → RE := fun env => (f env).bind fun p => if szOk p.1.length then .ok (.lst p.1, p.2) else .stk
theorem SE_tup {ks : List (Option Nat)} {f : En → R En (List O × En)} {es : List Expr} {x1} {pos : Pos} (h : SN X W Wx ks f es) : SE X W Wx (eTup f) (.Tuple es x1 pos) := fun env => (pe_tup (h env)).imp fun σ H Q => by
  rintro ⟨G, Fs, S, q⟩
  refine ⟨G, Fs, S, ?_⟩
  unfold eTup at q
  cases e1 : f env with
  | stk => rw [e1] at q; exact q
  | exc c u => rw [e1] at q; exact q
  | ok p =>
    obtain ⟨ds, e2⟩ := p
    rw [e1, bind_ok] at q
    intro vs G1 H1 FA Fs1 s1 A1 S1 d1 _
    dsimp only at q
    cases hz : szOk ds.length with
    | false => rw [hz, if_neg (by decide)] at q; exact q.elim
    | true =>
      rw [hz, if_pos rfl] at q
      refine ⟨by rw [← A1.len]; exact szOk_sz hz, fun p hp => ?_⟩
      have s2 := addG_all s1 A1.own
      have S2 := S1.addG (F1 := All FA) (fun i a ⟨j, h1⟩ h2 => d1 j i a h1 h2) A1.own
      have r2 := froz_all A1 s1.le
      have s3 := step_sh s2.le s2.b hp (o := .tup vs)
      refine q _ _ _ Emp Fs1 (s2.trans (s3.wide (fun _ h => h.elim) fun a h => h.elim .inr .inl)) (.sh' (RpDs.tup upd_same (r2.sub (sub_upd (none_of_le s2.le hp))))) (S2.step0 s3) fun _ _ h => h.elim
theorem SE_lst {ks : List (Option Nat)} {f : En → R En (List O × En)} {es : List Expr} {pos : Pos} (h : SN X W Wx ks f es) : SE X W Wx (eLst f) (.List es pos) := fun env => (pe_lst (h env)).imp fun σ H Q => by
  rintro ⟨G, Fs, S, q⟩
  refine ⟨G, Fs, S, ?_⟩
  unfold eLst at q
  cases e1 : f env with
  | stk => rw [e1] at q; exact q
  | exc c u => rw [e1] at q; exact q
  | ok p =>
    obtain ⟨ds, e2⟩ := p
    rw [e1, bind_ok] at q
    intro vs G1 H1 FA Fs1 s1 A1 S1 d1 _
    dsimp only at q
    cases hz : szOk ds.length with
    | false => rw [hz, if_neg (by decide)] at q; exact q.elim
    | true =>
      rw [hz, if_pos rfl] at q
      refine ⟨by rw [← A1.len]; exact szOk_sz hz, fun p hp => ?_⟩
      have s3 := step_own s1.le s1.b hp (o := .lst vs)
      have nA : ∀ i a, FA i a → a ≠ p := fun i a ha e => by
        have hi := A1.bd i a ha
        obtain ⟨_, o, h2, _⟩ := (A1.rp i _ _ (List.getElem?_eq_getElem hi) (List.getElem?_eq_getElem (by rw [← A1.len]; exact hi))).own a ha
        rw [e, hp] at h2; cases h2
      have S3 := S1.step0 s3
      refine q _ _ _ (fun a => a = p ∨ All FA a) Fs1 (s1.trans (s3.wide (fun _ h => h.elim) fun a h => ?_)) (.lst FA (none_of_le s1.le hp) upd_same A1.len (fun i d v h1 h2 => (A1.rp i d v h1 h2).step0 s3) A1.dj (fun i a h => ⟨A1.bd i a h, nA i a h⟩) fun a => Iff.rfl) S3 fun i a h1 h2 => ?_
      · rcases h with (h | h) | h
        · exact .inr h
        · exact .inl (.inl h)
        · exact .inl (.inr h)
      · rcases h1 with h1 | ⟨j, h1⟩
        · obtain ⟨_, o, h3, _⟩ := S1.ow i a h2
          rw [h1, hp] at h3; cases h3
        · exact d1 j i a h1 h2
def iE (f : En → RE) : En → R En (List D × En) := fun env => (f env).bind fun p => match itD p.1 with
  | some ds => .ok (ds, p.2)
  | none => .stk
def iRange1 (f : En → RE) : En → R En (List D × En) := fun env => (f env).bind fun p => match asI p.1 with
  | some j => if okI j then .ok (rngD 0 j, p.2) else .stk
  | none => .stk
end
end
end FD


set_option Elab.async false
set_option linter.all false
set_option maxRecDepth 100000
namespace FD
noncomputable section
open PySem PySem.Spec L2
section
variable {X : Cx} {W : Wd} {Wx : WX} {pr : List Nat} {G G' H H' : Hp} {env env' : En} {σ σ' : St} {Fs Fs' : Nat → Fp} {F F' : Fp}
structure LstAt (W : Wd) (G H : Hp) (σ : St) (Fs : Nat → Fp) (i : Nat) (xs : List O) (p : Addr) (vs : List V) (Fa : Nat → Fp) : Prop where
  sl : σ[i]? = some (some (.ref p))
  g : G p = none
  h : H p = some (.lst vs)
  len : xs.length = vs.length
  rp : ∀ (k : Nat) (d : O) (v : V), xs[k]? = some d → vs[k]? = some v → RpO W.C G H d v (Fa k)
  dj : ∀ (k l : Nat) (a : Addr), k ≠ l → Fa k a → ¬ Fa l a
  bd : ∀ (k : Nat) (a : Addr), Fa k a → k < xs.length ∧ a ≠ p
  fp : ∀ a, Fs i a ↔ a = p ∨ ∃ k, Fa k a
theorem Sim.lstAt {i : Nat} {xs : List O} (S : Sim W G env σ H Fs) (h : gt env i = some (.lst xs)) : ∃ p vs Fa, LstAt W G H σ Fs i xs p vs Fa := by
  obtain ⟨v, h1, r⟩ := S.rp i _ (gt_some h)
  cases r with
  | @lst _ p vs _ Fa g h l k dj bd hF => exact ⟨p, vs, Fa, h1, g, h, l, k, dj, bd, hF⟩
def setF (Fs : Nat → Fp) (i : Nat) (F : Fp) : Nat → Fp := fun j => if j = i then F else Fs j
theorem all_setF {i : Nat} {F1 : Fp} : ∀ a, All (setF Fs i F1) a → F1 a ∨ All Fs a := all_set
theorem upd_slot {i : Nat} {p : Addr} {o' : HO} {d' : O} {F1 Fnew : Fp} (S : Sim W G env σ H Fs) (hσ : σ[i]? = some (some (.ref p))) (hp : Fs i p) (r' : RpO W.C G (upd H p o') d' (.ref p) F1)
    (hs : ∀ a, F1 a → Fs i a ∨ Fnew a) (hn : ∀ j a, Fnew a → ¬ Fs j a) :
    Step W G H (fun a => All Fs a ∨ Fnew a) G (upd H p o') (fun a => All (setF Fs i F1) a ∨ ((All Fs a ∨ Fnew a) ∧ a ≠ p)) ∧ Sim W G (env.set i (some d')) σ (upd H p o') (setF Fs i F1) := by
  have g := (S.ow i p hp).1
  obtain ⟨o, hH, nt⟩ := (S.ow i p hp).2
  have st : Step W G H (fun a => All Fs a ∨ Fnew a) G (upd H p o') (fun a => All (setF Fs i F1) a ∨ ((All Fs a ∨ Fnew a) ∧ a ≠ p)) := by
    refine ⟨fun _ _ h => h, fun a u ha nf _ => ?_, fun a ha => ?_, fun a ha => .inl ha, fun a ha => .inl ?_, fun a u ha => ?_, S.tb.wr hH nt⟩
    · rw [upd_ne fun (e : a = p) => nf (.inl ⟨i, by rw [e]; exact hp⟩)]; exact ha
    · by_cases e : a = p
      · subst e; rw [upd_same]; simp
      · rw [upd_ne e]; exact ha
    · rcases ha with ha | ha
      · rcases all_setF a ha with h | h
        · rcases hs a h with h | h
          · exact .inl ⟨i, h⟩
          · exact .inr h
        · exact .inl h
      · exact ha.1
    · rw [upd_ne fun (e : a = p) => by rw [e, g] at ha; cases ha]; exact S.le a u ha
  refine ⟨st, st.le, ?_, fun j d e => ?_, fun j k a hjk h1 h2 => ?_, fun j a h => ?_, st.b⟩
  · rw [List.length_set]; exact S.len
  · by_cases hj : i = j
    · subst hj
      have hl : i < env.length := by
        have h1 := (List.getElem?_eq_some_iff.mp e).1
        rw [List.length_set] at h1
        exact h1
      rw [List.getElem?_set_self hl] at e
      cases e
      refine ⟨_, hσ, ?_⟩
      unfold setF
      rw [if_pos rfl]
      exact r'
    · rw [List.getElem?_set_ne hj] at e
      obtain ⟨w, h1, h2⟩ := S.rp j d e
      refine ⟨w, h1, ?_⟩
      unfold setF
      rw [if_neg (Ne.symm hj)]
      exact h2.keep (fun _ _ h => h) fun a ha => ⟨(h2.own a ha).1, upd_ne fun (e : a = p) => S.dj j i a (Ne.symm hj) ha (by rw [e]; exact hp)⟩
  · unfold setF at h1 h2
    by_cases hj : j = i
    · by_cases hk : k = i
      · exact hjk (hj.trans hk.symm)
      · rw [if_pos hj] at h1; rw [if_neg hk] at h2
        rcases hs a h1 with h | h
        · exact S.dj i k a (fun e => hk e.symm) h h2
        · exact hn k a h h2
    · rw [if_neg hj] at h1
      by_cases hk : k = i
      · rw [if_pos hk] at h2
        rcases hs a h2 with h | h
        · exact S.dj i j a (fun e => hj e.symm) h h1
        · exact hn j a h h1
      · rw [if_neg hk] at h2
        exact S.dj j k a hjk h1 h2
  · unfold setF at h
    by_cases hj : j = i
    · rw [if_pos hj] at h; exact r'.own a h
    · rw [if_neg hj] at h
      obtain ⟨h1, o2, h2, h3⟩ := S.ow j a h
      exact ⟨h1, o2, by rw [upd_ne fun (e : a = p) => S.dj j i a hj h (by rw [e]; exact hp)]; exact h2, h3⟩
theorem LstAt.upd {i : Nat} {xs xs' : List O} {p : Addr} {vs vs' : List V} {Fa Fa' : Nat → Fp} {Fnew : Fp} (S : Sim W G env σ H Fs) (L : LstAt W G H σ Fs i xs p vs Fa) (hl : xs'.length = vs'.length)
    (hr : ∀ (k : Nat) (d : O) (v : V), xs'[k]? = some d → vs'[k]? = some v → RpO W.C G H d v (Fa' k)) (hd : ∀ (k l : Nat) (a : Addr), k ≠ l → Fa' k a → ¬ Fa' l a) (hb : ∀ k a, Fa' k a → k < xs'.length ∧ ((∃ l, Fa l a) ∨ Fnew a)) (hn : ∀ j a, Fnew a → ¬ Fs j a) :
    Step W G H (fun a => All Fs a ∨ Fnew a) G (L2.upd H p (.lst vs')) (fun a => All (setF Fs i fun a => a = p ∨ ∃ k, Fa' k a) a ∨ ((All Fs a ∨ Fnew a) ∧ a ≠ p)) ∧ Sim W G (env.set i (some (.lst xs'))) σ (L2.upd H p (.lst vs')) (setF Fs i fun a => a = p ∨ ∃ k, Fa' k a) := by
  have hp : Fs i p := (L.fp p).mpr (.inl rfl)
  have np : ∀ k a, Fa' k a → a ≠ p := fun k a h e => by
    rcases (hb k a h).2 with ⟨l, h2⟩ | h2
    · exact (L.bd l a h2).2 e
    · exact hn i a h2 (by rw [e]; exact hp)
  refine upd_slot S L.sl hp (.lst Fa' L.g upd_same hl (fun k d v h1 h2 => (hr k d v h1 h2).keep (fun _ _ h => h) fun a ha => ⟨((hr k d v h1 h2).own a ha).1, upd_ne (np k a ha)⟩) hd (fun k a h => ⟨(hb k a h).1, np k a h⟩) fun a => Iff.rfl) (fun a h => ?_) hn
  rcases h with h | ⟨k, h⟩
  · exact .inl ((L.fp a).mpr (.inl h))
  · rcases (hb k a h).2 with h2 | h2
    · exact .inl ((L.fp a).mpr (.inr h2))
    · exact .inr h2
def lstG (env : En) (i : Nat) : Option (List O) := match gt env i with
  | some (.lst xs) => some xs
  | _ => none
theorem lstG_some {i : Nat} {xs : List O} (h : lstG env i = some xs) : gt env i = some (.lst xs) := by
  unfold lstG at h
  split at h
  · rename_i e; cases h; exact e
  · cases h
def eApp (i : Nat) (f : En → RE) : En → RE := fun env => match lstG env i with
  | none => .stk
  | some _ => (f env).bind fun p => match lstG p.2 i with
    | some xs => if szOk (xs.length + 1) then .ok (.sh .non, p.2.set i (some (.lst (xs ++ [p.1])))) else .stk
    | none => .stk
theorem SE_append (i : Nat) {f : En → RE} {x : Str} {e : Expr} {p apos cpos : Pos} (ha : SE X W Wx f e) (hN : X.N[i]? = some x := by rfl) (hv : Vis X.env.scope x := by first | exact Or.inl rfl | exact Or.inr (Or.inl rfl) | exact Or.inr (Or.inr rfl)) (hd : (x == ("__debug__" : Str)) = false := by decide)
    (hcd : (x == ("__classdict__" : Str)) = false := by decide) (hbase : attributeBase (.Name x p) "append" X.env (eval (.Name x p) X.env) = eval (.Name x p) X.env := by rfl)
    (hfew : ((backTo cpos (starEach [e] X.env)).all (fun x => !x.1) && (backToKw cpos (keywordEach [] X.env)).all (fun x => x.1.isSome)
      && decide (([e] : List Expr).length + ([] : List Keyword).length + (if ([] : List Keyword).isEmpty then 0 else 1) < 30)) = true := by rfl)
    (hline : (apos.endLine == cpos.line) = true := by rfl) (hs : starEach [e] X.env = (false, eval e X.env) :: starEach [] X.env := by rfl) (hplain : (backTo cpos (starEach [] X.env)).any (·.1) = false := by rfl) :
    SE X W Wx (eApp i f) (.Call (.Attribute (.Name x p) "append" apos) [e] [] cpos) := fun env =>
  (pe_bm PySem.F.plainAttrs_list PySem.F.slot_list_append PySem.F.type_list_append mt_append (pe_var hN hv hd hcd) (pa_cons (ha env) pa_nil hs) hbase hfew hline hs hplain).imp fun σ H Q => by
    rintro ⟨G, Fs, S, q⟩
    unfold eApp at q
    cases e0 : lstG env i with
    | none => rw [e0] at q; exact q.elim
    | some xs0 =>
      rw [e0] at q
      obtain ⟨p0, vs0, Fa0, L0⟩ := S.lstAt (lstG_some e0)
      refine ⟨.ref p0, L0.sl, .inl ⟨rfl, _, SqL.of L0.h⟩, G, Fs, S, ?_⟩
      dsimp only at q
      cases e1 : f env with
      | stk => rw [e1] at q; exact q
      | exc c u => rw [e1] at q; exact q
      | ok pp =>
        obtain ⟨y, e2⟩ := pp
        rw [e1, bind_ok] at q
        intro v G1 H1 F1 Fs1 s1 r1 S1 d1
        dsimp only at q
        cases e3 : lstG e2 i with
        | none => rw [e3] at q; exact q.elim
        | some xs =>
          rw [e3] at q
          dsimp only at q
          cases hz : szOk (xs.length + 1) with
          | false => rw [hz, if_neg (by decide)] at q; exact q.elim
          | true =>
            rw [hz, if_pos rfl] at q
            have hz : xs.length + 1 ≤ sizeLine := szOk_sz hz
            obtain ⟨p1, vs, Fa, L⟩ := S1.lstAt (lstG_some e3)
            have ep : p1 = p0 := by
              have := L.sl
              rw [L0.sl] at this
              cases this; rfl
            subst ep
            have dF : ∀ k a, F1 a → ¬ Fa k a := fun k a h1 h2 => d1 i a h1 ((L.fp a).mpr (.inr ⟨k, h2⟩))
            refine ⟨p1, vs, v, rfl, rfl, L.h, by rw [← L.len]; omega, ?_⟩
            have a1 : ∀ (k : Nat) (d : O) (w : V), (xs ++ [y])[k]? = some d → (vs ++ [v])[k]? = some w → RpO W.C G1 H1 d w (if k = xs.length then F1 else Fa k) := fun k d w h1 h2 => by
              by_cases hk : k = xs.length
              · subst hk
                rw [List.getElem?_concat_length] at h1
                rw [L.len, List.getElem?_concat_length] at h2
                cases h1; cases h2
                rw [if_pos rfl]; exact r1
              · rw [if_neg hk]
                have hlt : k < xs.length := by
                  have := (List.getElem?_eq_some_iff.mp h1).1
                  rw [List.length_append, List.length_singleton] at this
                  omega
                rw [List.getElem?_append_left hlt] at h1
                rw [List.getElem?_append_left (by rw [← L.len]; exact hlt)] at h2
                exact L.rp k d w h1 h2
            have a2 : ∀ (k l : Nat) (a : Addr), k ≠ l → (if k = xs.length then F1 else Fa k) a → ¬ (if l = xs.length then F1 else Fa l) a := fun k l a hkl h1 h2 => by
              by_cases hk : k = xs.length
              · by_cases hl : l = xs.length
                · exact hkl (hk.trans hl.symm)
                · rw [if_pos hk] at h1; rw [if_neg hl] at h2
                  exact dF l a h1 h2
              · by_cases hl : l = xs.length
                · rw [if_neg hk] at h1; rw [if_pos hl] at h2
                  exact dF k a h2 h1
                · rw [if_neg hk] at h1; rw [if_neg hl] at h2
                  exact L.dj k l a hkl h1 h2
            have a3 : ∀ (k : Nat) (a : Addr), (if k = xs.length then F1 else Fa k) a → k < (xs ++ [y]).length ∧ ((∃ l, Fa l a) ∨ F1 a) := fun k a h => by
              rw [List.length_append, List.length_singleton]
              by_cases hk : k = xs.length
              · rw [if_pos hk] at h
                exact ⟨by omega, .inr h⟩
              · rw [if_neg hk] at h
                exact ⟨by have := (L.bd k a h).1; omega, .inl ⟨k, h⟩⟩
            obtain ⟨s2, S2⟩ := L.upd (xs' := xs ++ [y]) (vs' := vs ++ [v]) (Fa' := fun k => if k = xs.length then F1 else Fa k) (Fnew := F1) S1 (by simp [L.len]) a1 a2 a3 (fun j a h => d1 j a h)
            refine q .non G1 _ Emp _ ((s1.wide (F1' := fun a => All Fs1 a ∨ F1 a) (fun _ h => h) fun a h => .inr (h.elim .inr .inl)).trans (s2.wide (fun _ h => h) fun a h => ?_)) (.sh' .non) S2 fun _ _ h => h.elim
            rcases h with h | h
            · exact h.elim
            · exact .inr (.inl h)
def ePop (i : Nat) (f : En → RP) : En → RE := fun env => match lstG env i with
  | none => .stk
  | some xs => match f env with
    | .ok y => match (asI y).bind fun j => if okI j then seqIndex? j xs.length else none with
      | some k => match xs[k]? with
        | some d => .ok (d, env.set i (some (.lst (xs.eraseIdx k))))
        | none => .stk
      | none => .stk
    | .exc c _ => .exc c env
    | .stk => .stk
def ePop0 (i : Nat) : En → RE := fun env => match lstG env i with
  | none => .stk
  | some xs => match xs[xs.length - 1]? with
    | some d => .ok (d, env.set i (some (.lst xs.dropLast)))
    | none => .stk
end
end
end FD


set_option Elab.async false
set_option linter.all false
set_option maxRecDepth 100000
namespace FD
noncomputable section
open PySem PySem.Spec L2
section
variable {X : Cx} {W : Wd} {Wx : WX} {pr : List Nat} {G G' H H' : Hp} {env env' : En} {σ σ' : St} {Fs Fs' : Nat → Fp} {F F' : Fp}
def sSetIx (i : Nat) (f : En → RE) (g : En → RP) : En → RS := fun env => match f env with
  | .ok (d, e) => match lstG e i with
    | some xs => match g e with
      | .ok y => match (asI y).bind fun j => ixN xs.length j with
        | some k => .nx (e.set i (some (.lst (xs.set k d))))
        | none => .stk
      | .exc c _ => .exc c e
      | .stk => .stk
    | none => .stk
  | .exc c e => .exc c e
  | .stk => .stk
theorem SS_setIx (i : Nat) {f : En → RE} {g : En → RP} {x : Str} {e ix : Expr} {p tpos pos : Pos} (hf : SE X W Wx f e) (hg : SP X W Wx g ix) (hN : X.N[i]? = some x := by rfl) (hv : Vis X.env.scope x := by first | exact Or.inl rfl | exact Or.inr (Or.inl rfl) | exact Or.inr (Or.inr rfl)) (hd : (x == ("__debug__" : Str)) = false := by decide)
    (hcd : (x == ("__classdict__" : Str)) = false := by decide) (hs : swapsWithSole [.Subscript (.Name x p) ix tpos] e pos.line X.env = pure false := by rfl) (hw : swappedStores [.Subscript (.Name x p) ix tpos] e X.env = pure none := by rfl)
    (h1 : (assignEach [.Subscript (.Name x p) ix tpos] X.env).map (·.2) = [assign (.Subscript (.Name x p) ix tpos) X.env] := by rfl)
    (ha : ∀ v, assign (.Subscript (.Name x p) ix tpos) X.env v = (do
      let ov ← holding [v] (eval (.Name x p) X.env)
      let iv ← holding [v, ov] (eval ix X.env)
      standAt tpos
      holding [v, ov, iv] (setItem ov iv v)
      release [v, ov, iv] []) := by intro _; rfl) : SS X W Wx pr (sSetIx i f g) (.Assign [.Subscript (.Name x p) ix tpos] e pos) := fun env =>
  (ps_asg (hf env) (pg_sub (pe_var hN hv hd hcd) (PE_any hg) set_list ha) hs hw h1).imp fun D σ H => by
    rintro ⟨G, Fs, S, q⟩
    refine ⟨G, Fs, S, ?_⟩
    unfold sSetIx at q
    cases e1 : f env with
    | stk => rw [e1] at q; exact q
    | exc c u => rw [e1] at q; exact fun G' H' Fs' s S' => q σ G' H' Fs' s S' (Pr.refl _ _)
    | ok pp =>
      obtain ⟨y, e2⟩ := pp
      rw [e1] at q
      intro v G1 H1 F1 Fs1 s1 r1 S1 d1
      dsimp only at q
      cases e3 : lstG e2 i with
      | none => rw [e3] at q; exact q.elim
      | some xs =>
        rw [e3] at q
        dsimp only at q
        obtain ⟨p0, vs0, Fa0, L0⟩ := S1.lstAt (lstG_some e3)
        refine ⟨.ref p0, L0.sl, e2, G1, Fs1, S1, ?_⟩
        cases e4 : g e2 with
        | stk => rw [e4] at q; exact q
        | exc c u => rw [e4] at q; exact fun G' H' s => q σ G' H' Fs1 ((s1.wide (F1' := All Fs1) (fun _ h => h) fun a h => .inr (.inr h)).trans s.all) (S1.step0 s) (Pr.refl _ _)
        | ok z =>
          rw [e4] at q
          intro u G2 H2 F2 s2 r2
          dsimp only at q
          cases e5 : asI z with
          | none => rw [e5] at q; exact q.elim
          | some j =>
            rw [e5, Option.bind_some] at q
            rw [asI_some e5] at r2
            cases e6 : ixN xs.length j with
            | none => rw [e6] at q; exact q.elim
            | some k =>
              rw [e6] at q
              have hk : k < xs.length := (ixN_seq e6).2.1
              have S2 := S1.step0 s2
              obtain ⟨p1, vs, Fa, L⟩ := S2.lstAt (lstG_some e3)
              have ep : p1 = p0 := by
                have := L.sl
                rw [L0.sl] at this
                cases this; rfl
              subst ep
              have r1' := r1.step0 s2
              refine ⟨p1, vs, j, k, rfl, rp_int r2, L.h, by rw [← L.len]; exact e6, ?_⟩
              have dF : ∀ k a, F1 a → ¬ Fa k a := fun k a h1 h2 => d1 i a h1 ((L.fp a).mpr (.inr ⟨k, h2⟩))
              have a1 : ∀ (l : Nat) (d : O) (w : V), (xs.set k y)[l]? = some d → (vs.set k v)[l]? = some w → RpO W.C G2 H2 d w (if l = k then F1 else Fa l) := fun l d w h1 h2 => by
                by_cases hl : l = k
                · subst hl
                  rw [List.getElem?_set_self hk] at h1
                  rw [List.getElem?_set_self (by rw [← L.len]; exact hk)] at h2
                  cases h1; cases h2
                  rw [if_pos rfl]; exact r1'
                · rw [List.getElem?_set_ne (Ne.symm hl)] at h1 h2
                  rw [if_neg hl]; exact L.rp l d w h1 h2
              have a2 : ∀ (l m : Nat) (a : Addr), l ≠ m → (if l = k then F1 else Fa l) a → ¬ (if m = k then F1 else Fa m) a := fun l m a hlm h1 h2 => by
                by_cases hl : l = k
                · by_cases hm : m = k
                  · exact hlm (hl.trans hm.symm)
                  · rw [if_pos hl] at h1; rw [if_neg hm] at h2; exact dF m a h1 h2
                · by_cases hm : m = k
                  · rw [if_neg hl] at h1; rw [if_pos hm] at h2; exact dF l a h2 h1
                  · rw [if_neg hl] at h1; rw [if_neg hm] at h2; exact L.dj l m a hlm h1 h2
              have a3 : ∀ (l : Nat) (a : Addr), (if l = k then F1 else Fa l) a → l < (xs.set k y).length ∧ ((∃ m, Fa m a) ∨ F1 a) := fun l a h => by
                rw [List.length_set]
                by_cases hl : l = k
                · rw [if_pos hl] at h; exact ⟨by omega, .inr h⟩
                · rw [if_neg hl] at h; exact ⟨(L.bd l a h).1, .inl ⟨l, h⟩⟩
              obtain ⟨s3, S3⟩ := L.upd (xs' := xs.set k y) (vs' := vs.set k v) (Fa' := fun l => if l = k then F1 else Fa l) (Fnew := F1) S2 (by simp [L.len]) a1 a2 a3 (fun j a h => d1 j a h)
              refine q σ G2 _ _ ((s1.wide (F1' := fun a => All Fs1 a ∨ F1 a) (fun _ h => h) fun a h => .inr (h.elim .inr .inl)).trans ((s2.wide (F1' := fun a => All Fs1 a ∨ F1 a) (fun _ h => h.elim) fun a h => .inl h).trans (s3.wide (fun _ h => h) fun a h => .inr (.inl h)))) S3 (Pr.refl _ _)
def intsO (xs : List O) : Option (List Int) := (allSh xs).bind intsD
theorem intsO_some {xs : List O} {ns : List Int} (h : intsO xs = some ns) : xs = (ns.map D.int).map O.sh := by
  unfold intsO at h
  cases e : allSh xs with
  | none => rw [e] at h; cases h
  | some ds =>
    rw [e, Option.bind_some] at h
    rw [allSh_some e, intsD_some h]
@[simp] theorem intsO_map (ns : List Int) : intsO ((ns.map D.int).map O.sh) = some ns := by unfold intsO; rw [allSh_map, Option.bind_some, intsD_map]
theorem LstAt.shared {i : Nat} {p : Addr} {vs : List V} {Fa : Nat → Fp} {ds : List D} {vs' : List V} (S : Sim W G env σ H Fs) {xs : List O} (L : LstAt W G H σ Fs i xs p vs Fa) (hr : RpDs W G ds vs') :
    Step W G H (All Fs) G (L2.upd H p (.lst vs')) (All (setF Fs i fun a => a = p)) ∧ Sim W G (env.set i (some (.lst (ds.map .sh)))) σ (L2.upd H p (.lst vs')) (setF Fs i fun a => a = p) := by
  have r : RpO W.C G (L2.upd H p (.lst vs')) (.lst (ds.map .sh)) (.ref p) (fun a => a = p) := RpDs.own L.g upd_same hr
  obtain ⟨s, S'⟩ := upd_slot (Fnew := Emp) S L.sl ((L.fp p).mpr (.inl rfl)) r (fun a h => .inl ((L.fp a).mpr (.inl h))) (fun _ _ h => h.elim)
  exact ⟨s.wide (fun _ h => h.elim id False.elim) fun a h => .inr (.inl h), S'⟩
def eRem (i : Nat) (f : En → RP) : En → RE := fun env => match (lstG env i).bind intsO with
  | none => .stk
  | some ns => match f env with
    | .ok y => match asI y with
      | some k => if ns.contains k then .ok (.sh .non, env.set i (some (.lst ((ns.erase k).map fun j => .sh (.int j))))) else .stk
      | none => .stk
    | .exc c _ => .exc c env
    | .stk => .stk
theorem SE_remove (i : Nat) {f : En → RP} {x : Str} {e : Expr} {p apos cpos : Pos} (hc : X.calm = true) (tk : Takes X Wx) (ha : SP X W Wx f e) (hN : X.N[i]? = some x := by rfl) (hv : Vis X.env.scope x := by first | exact Or.inl rfl | exact Or.inr (Or.inl rfl) | exact Or.inr (Or.inr rfl)) (hd : (x == ("__debug__" : Str)) = false := by decide)
    (hcd : (x == ("__classdict__" : Str)) = false := by decide) (hbase : attributeBase (.Name x p) "remove" X.env (eval (.Name x p) X.env) = eval (.Name x p) X.env := by rfl)
    (hfew : ((backTo cpos (starEach [e] X.env)).all (fun x => !x.1) && (backToKw cpos (keywordEach [] X.env)).all (fun x => x.1.isSome)
      && decide (([e] : List Expr).length + ([] : List Keyword).length + (if ([] : List Keyword).isEmpty then 0 else 1) < 30)) = true := by rfl)
    (hline : (apos.endLine == cpos.line) = true := by rfl) (hs : starEach [e] X.env = (false, eval e X.env) :: starEach [] X.env := by rfl) (hplain : (backTo cpos (starEach [] X.env)).any (·.1) = false := by rfl) :
    SE X W Wx (eRem i f) (.Call (.Attribute (.Name x p) "remove" apos) [e] [] cpos) := fun env =>
  (pe_remX hc tk (pe_var hN hv hd hcd) (ha env) hbase hfew hline hs hplain).imp fun σ H Q => by
    rintro ⟨G, Fs, S, q⟩
    unfold eRem at q
    cases e0 : lstG env i with
    | none => rw [e0] at q; exact q.elim
    | some xs =>
      rw [e0, Option.bind_some] at q
      cases e2 : intsO xs with
      | none => rw [e2] at q; exact q.elim
      | some ns =>
        rw [e2] at q
        dsimp only at q
        obtain ⟨p0, vs0, Fa0, L0⟩ := S.lstAt (lstG_some e0)
        refine ⟨.ref p0, L0.sl, .inl ⟨rfl, _, SqL.of L0.h⟩, G, Fs, S, ?_⟩
        cases e1 : f env with
        | stk => rw [e1] at q; exact q
        | exc c u => rw [e1] at q; exact fun G' H' s => q G' H' Fs s.all (S.step0 s)
        | ok y =>
          rw [e1] at q
          dsimp only at q
          intro v G1 H1 F1 s1 r1
          cases e3 : asI y with
          | none => rw [e3] at q; exact q.elim
          | some k =>
            rw [e3] at q
            dsimp only at q
            by_cases hk : ns.contains k = true
            · rw [if_pos hk] at q
              have S1 := S.step0 s1
              obtain ⟨p1, vs, Fa, L⟩ := S1.lstAt (lstG_some e0)
              have ep : p1 = p0 := by
                have := L.sl
                rw [L0.sl] at this
                cases this; rfl
              subst ep
              rw [asI_some e3] at r1
              have ex := intsO_some e2
              have hv : RpDs W G1 (ns.map D.int) vs := RpDs.of (H := H1) (by
                rw [← ex]
                exact paired_of L.len fun i d v h1 h2 => ⟨Fa i, L.rp i d v h1 h2⟩)
              refine ⟨p1, ns, k, rfl, rp_int r1, by rw [L.h, ints_vals hv], fun _ => ?_, fun hn => absurd (by simpa using hk) hn⟩
              obtain ⟨s2, S2⟩ := L.shared S1 (ints_rp (W := W) (G := G1) (ns.erase k))
              refine q .non G1 _ Emp _ ((s1.wide (F1 := All Fs) (F1' := All Fs) (fun _ h => h.elim) fun a h => .inl h).trans (s2.wide (fun _ h => h) fun a h => h.elim False.elim .inr)) (.sh' .non) (by rw [shI]; exact S2) fun _ _ h => h.elim
            · rw [if_neg hk] at q; exact q.elim
def sPar (i j : Nat) (f : En → R En (List O × En)) : En → RS := fun env => match f env with
  | .ok ([x, y], e) => .nx ((e.set i (some x)).set j (some y))
  | .ok _ => .stk
  | .exc c e => .exc c e
  | .stk => .stk
theorem SS_par (i j : Nat) {ks : List (Option Nat)} {f : En → R En (List O × En)} {x y : Str} {a b : Expr} {px py pt pos : Pos} {kt k2 pt2} (hc : X.calm = true) (hN : X.N.Nodup) (ha : SN X W Wx ks f [a, b]) (hij : i ≠ j := by decide) (hpi : i ∉ pr := by decide) (hpj : j ∉ pr := by decide) (hi : X.N[i]? = some x := by rfl) (hj : X.N[j]? = some y := by rfl)
    (hx : X.env.scope.names.lookup x = some .local := by rfl) (hy : X.env.scope.names.lookup y = some .local := by rfl)
    (hw : swappedStores [.Tuple [.Name x px, .Name y py] kt pt] (.Tuple [a, b] k2 pt2) X.env = pure (some [x, y]) := by rfl)
    (hs : swapsWithSole [.Tuple [.Name x px, .Name y py] kt pt] (.Tuple [a, b] k2 pt2) pos.line X.env = pure false := by rfl) :
    SS X W Wx pr (sPar i j f) (.Assign [.Tuple [.Name x px, .Name y py] kt pt] (.Tuple [a, b] k2 pt2) pos) := fun env => (ps_par hc hN hi hj hij hx hy (ha env) hw hs).imp fun D σ H => by
  rintro ⟨G, Fs, S, q⟩
  refine ⟨G, Fs, S, ?_⟩
  unfold sPar at q
  cases e1 : f env with
  | stk => rw [e1] at q; exact q
  | exc c u => rw [e1] at q; exact fun G' H' Fs' s S' => q σ G' H' Fs' s S' (Pr.refl _ _)
  | ok pp =>
    obtain ⟨ds, e2⟩ := pp
    rw [e1] at q
    intro vs G1 H1 FA Fs1 s1 A1 S1 d1 _
    have hl := A1.len
    match ds, vs, hl with
    | [d1', d2'], [v1, v2], _ =>
      refine ⟨v1, v2, rfl, ?_⟩
      have S2 := S1.set (i := i) (A1.rp 0 _ _ rfl rfl) fun k a h => d1 0 k a h
      have S3 := S2.set (i := j) (A1.rp 1 _ _ rfl rfl) fun k a h h2 => by
        by_cases hk : k = i
        · simp only [hk, if_true] at h2; exact A1.dj 0 1 a (by decide) h2 h
        · simp only [hk, if_false] at h2; exact d1 1 k a h h2
      refine q _ G1 H1 _ (s1.wide (fun _ h => h) fun a h => ?_) S3 ((Pr.set hpi).trans (Pr.set hpj))
      rcases all_set a h with h | h
      · exact .inr (.inl ⟨1, h⟩)
      · rcases all_set a h with h | h
        · exact .inr (.inl ⟨0, h⟩)
        · exact .inr (.inr h)
    | [], _, _ => exact q.elim
    | [_], _, _ => exact q.elim
    | _ :: _ :: _ :: _, _, _ => exact q.elim
def isDct : O → Bool
  | .sh (.dK _) => true
  | .sh (.dT _) => true
  | .dK _ => true
  | .dT _ => true
  | _ => false
def bDGet (f g : En → RP) : En → RP := fun env => (f env).bind fun x => if isDct x then (g env).bind fun y => match dGet x y with
  | some (some z) => ofO (asSh z)
  | some none => .ok (.sh .non)
  | none => .stk
  else .stk
end
end
end FD


set_option Elab.async false
set_option linter.all false
set_option maxRecDepth 100000
namespace FD
noncomputable section
open PySem PySem.Spec L2
section
variable {X : Cx} {W : Wd} {Wx : WX} {pr : List Nat} {G G' H H' : Hp} {env env' : En} {σ σ' : St} {Fs Fs' : Nat → Fp} {F F' : Fp}
end
end
end FD


set_option Elab.async false
set_option linter.all false
set_option maxRecDepth 100000
namespace FD
noncomputable section
open PySem PySem.Spec L2
section
variable {X : Cx} {W : Wd} {Wx : WX} {pr : List Nat} {G G' H H' : Hp} {env env' : En} {σ σ' : St} {Fs Fs' : Nat → Fp} {F F' : Fp}
def IdxP (K : PySem.W.Frag) (H2 : Hp) (vs : List V) (y : V) (Q : VK) : Prop := ∃ (d : PyData) (ds : List PyData) (j : Nat) (z : PyData), DpAll K H2 vs ds ∧ Dp K H2 y d ∧
    SeqAt.shaped (.list ds) = true ∧ SeqAt.shaped d = true ∧ ds[j]? = some z ∧ PyData.eqv z d = true ∧ (∀ (m : Nat) (z' : PyData), m < j → ds[m]? = some z' → PyData.eqv z' d = false) ∧ Q (.int (j : Nat)) H2
def tIdx (K : PySem.W.Frag) (ta te : TE) : TE := fun σ H Q => ta σ H fun x H1 => ∃ a, x = .ref a ∧ (((∃ xs, SqL K H1 a xs) ∧ te σ H1 fun y H2 => ∃ vs, SqL K H2 a vs ∧ IdxP K H2 vs y Q) ∨
  ((∃ o vs, H1 a = some (.frz o (.tup vs)) ∧ o.dict = none) ∧ te σ H1 fun y H2 => ∃ vs, SqT K H2 a vs ∧ IdxP K H2 vs y Q))
open PyProof.Rows hiding St in
theorem mt_tindexD (hu : X.A.units + 65 < cLine) {pins : List (Addr × Obj)} {s : Shared} {σ : St} {H : Hp} {a : Addr} {y : V} {u : Value} {Q : VK} {vs : List V} {d : PyData} {ds : List PyData} {j : Nat} {z : PyData} (I : Inv X pins σ H s) (ry : RelV y u) (hq : SqT X.K H a vs) (ha : DpAll X.K H vs ds) (hy : Dp X.K H y d)
    (sl : SeqAt.shaped (.list ds) = true) (sd : SeqAt.shaped d = true) (hz : ds[j]? = some z) (hzj : PyData.eqv z d = true) (hno : ∀ (m : Nat) (z' : PyData), m < j → ds[m]? = some z' → PyData.eqv z' d = false) (q : Q (.int (j : Nat)) H) :
    wpAny (model X.prog X.w) X.A (call (.builtin "tuple.index") [.ref a, u]) (EP X pins σ Q) X.xe s := by
  obtain ⟨bs, r1⟩ := Dp.reads I d y u hy ry
  have hxs : PyData.canLayAll0 ds = true := SeqAt.canLay_of_shaped sl
  have hroom : X.A.units + 1 + min (PyData.depthAll ds) d.depth < cLine := room_in_shaped sd hu
  obtain ⟨its, rv, pl, hlen⟩ := I.tuple hq
  obtain ⟨⟨cls, dd, data, sls⟩, ho, hc, n, hdt⟩ := pl
  simp only at hc hdt
  subst hc hdt
  obtain ⟨as, h4⟩ := Dp.readsAll I ds _ its ha rv
  have hn : its.length = ds.length := SeqAt.ReadsAll.length ds its as h4
  have hmap : its.map (SeqAt.readOf s.heap) = ds := SeqAt.readsAll_map ds its as hxs h4
  obtain ⟨hjd, _⟩ := List.getElem?_eq_some_iff.mp hz
  have hjl : j < its.length := by omega
  have hj : j < its.toArray.size := by simpa using hjl
  have at_ : ∀ (m : Nat) (hm : m < its.toArray.size) (z' : PyData), ds[m]? = some z' → SeqAt.readOf s.heap its.toArray[m] = z' := by
    intro m hm z' hz'
    have hml : m < its.length := by simpa using hm
    rw [← hmap, List.getElem?_map, List.getElem?_eq_getElem hml] at hz'
    have e1 : SeqAt.readOf s.heap its[m] = z' := Option.some.inj (show some (SeqAt.readOf s.heap its[m]) = some z' from hz')
    simpa using e1
  refine call_meets PySem.F.slot_tuple_index ⟨_, ho, rfl⟩ PySem.F.entry_tuple_index (PySem.F.args_tuple_index_2 _ _)
    (TI.tuple_indexAt a its.toArray n dd sls u (fun u => PyData.eqv (SeqAt.readOf s.heap u) d) j hj ?_ ?_) ⟨ho, SeqAt.items_eqAt (vs := its.toArray) (show ReadsAll s.heap its.toArray.toList ds as from h4) r1 hxs (SeqAt.canLay_of_shaped sd) hroom, ?_⟩
  · show PyData.eqv (SeqAt.readOf s.heap its.toArray[j]) d = true
    rw [at_ j hj z hz]
    exact hzj
  · intro m hm hmj
    have hmd : m < ds.length := by omega
    have hz' : ds[m]? = some ds[m] := List.getElem?_eq_getElem hmd
    show PyData.eqv (SeqAt.readOf s.heap its.toArray[m]) d = false
    rw [at_ m hm _ hz']
    exact hno m _ hmj hz'
  · exact ⟨.int (j : Nat), H, I.tok _, ⟨_, rfl⟩, q⟩
open PyProof.Rows hiding St in
theorem pe_idx {o e : Expr} {apos cpos : Pos} {to te : TE} (hu : X.A.units + 65 < cLine) (ho : PE X o to) (he : PE X e te) (hbase : attributeBase o "index" X.env (eval o X.env) = eval o X.env)
    (hfew : ((backTo cpos (starEach [e] X.env)).all (fun x => !x.1) && (backToKw cpos (keywordEach [] X.env)).all (fun x => x.1.isSome)
      && decide (([e] : List Expr).length + ([] : List Keyword).length + (if ([] : List Keyword).isEmpty then 0 else 1) < 30)) = true)
    (hline : (apos.endLine == cpos.line) = true) (hs : starEach [e] X.env = (false, eval e X.env) :: starEach [] X.env) (hplain : (backTo cpos (starEach [] X.env)).any (·.1) = false) : PE X (.Call (.Attribute o "index" apos) [e] [] cpos) (tIdx X.K to te) := by
  refine ⟨fun pins s σ H Q I h => ?_⟩
  refine wpAny_Call_method_late hbase hfew hline rfl (thn (ho.run pins s σ H _ I h) fun v s1 ⟨x, H1, I1, r1, a, ex, ty⟩ => ?_)
  subst ex
  cases r1
  have ha : PA X [e] (tCons te tNil) := pa_cons he pa_nil hs
  have tail : ∀ (id : String) (R : V → Hp → Prop), te σ H1 R → (∀ y u s2 H2, Inv X pins σ H2 s2 → RelV y u → R y H2 → wpAny (model X.prog X.w) X.A (call (.builtin id) [.ref a, u]) (EP X pins σ Q) X.xe s2) →
      wpAny (model X.prog X.w) X.A (callWith cpos (.builtin id) [.ref a] (backTo cpos (starEach [e] X.env)) []) (EP X pins σ Q) X.xe s1 := fun id R hR k => by
    have hA := ha.run cpos pins s1 σ H1 (fun vs H2 => ∃ y, vs = [y] ∧ R y H2) I1 (by
      show te σ H1 fun x H2 => ∃ y, [x] = [y] ∧ R y H2
      have e1 : (fun (x : V) (H2 : Hp) => ∃ y, [x] = [y] ∧ R y H2) = R := by
        funext x H2
        exact propext ⟨fun ⟨y, e, r⟩ => by cases e; exact r, fun r => ⟨x, rfl, r⟩⟩
      rw [e1]; exact hR)
    rw [hs] at hA ⊢
    refine Calls.callWith_builtin (by show (false || (backTo cpos (starEach [] X.env)).any (·.1)) = false; rw [hplain] <;> rfl) (Calls.evalArgs_plain ?_)
    refine thn hA fun us s2 ⟨vs, H2, I2, r2, y, ev, hy⟩ => ?_
    subst ev
    obtain ⟨u, eu, ru⟩ := vals1 r2
    subst eu
    exact k y u s2 H2 I2 ru hy
  rcases ty with ⟨⟨xs, hq⟩, q1⟩ | ⟨⟨ob, ws, hf, hd⟩, q1⟩
  · obtain ⟨its, _, pl, _⟩ := I1.list hq
    refine ⟨"list", "list.index", PySem.F.plainAttrs_list, PySem.F.slot_list_index, PySem.F.type_list_index, pl.isList.typeIs, fun b e => ?_, ?_⟩
    · cases e
      obtain ⟨o, n, e, c, hd, _⟩ := pl
      exact ⟨o, e, hd⟩
    · refine tail "list.index" _ q1 fun y u s2 H2 I2 ru ⟨vs, c1, d, ds, j, z, c3, c4, c5, c6, c7, c8, c9, c10⟩ => ?_
      exact mt_indexD hu pins s2 σ H2 (.ref a) [y] (.ref a) [u] Q I2 rfl (.cons ru .nil) ⟨a, y, d, ds, j, z, rfl, rfl, .lst c1 c3, c4, c5, c6, c7, c8, c9, c10⟩
  · have hk := I1.hok a _ hf
    refine ⟨"tuple", "tuple.index", PySem.F.plainAttrs_tuple, PySem.F.slot_tuple_index, PySem.F.type_tuple_index, ?_, fun b e => ?_, ?_⟩
    · obtain ⟨h1, h2⟩ := hk
      obtain ⟨_, its, _, o2, h3, h4, _⟩ := h2
      exact ⟨o2, h3, h4⟩
    · cases e
      exact ⟨ob, hk.1, hd⟩
    · refine tail "tuple.index" _ q1 fun y u s2 H2 I2 ru ⟨vs, c2, d, ds, j, z, c3, c4, c5, c6, c7, c8, c9, c10⟩ => ?_
      exact mt_tindexD hu I2 ru c2 c3 c4 c5 c6 c7 c8 c9 c10
def pyOkL (ds : List D) : Bool := plainDL ds && SeqAt.shaped (.list (toPyL ds))
def idxD (ds : List D) (d : D) : Option Nat := ds.findIdx? fun z => deq z d
def bIdx (f g : En → RP) : En → RP := fun env => (f env).bind fun x => match x with
  | .sh (.tup true ds) => (g env).bind fun y => match y with
    | .sh d => if pyOkL ds && pyOk d then ofO ((idxD ds d).map fun j => .sh (.int (j : Nat))) else .stk
    | _ => .stk
  | .sh (.lst ds) => (g env).bind fun y => match y with
    | .sh d => if pyOkL ds && pyOk d then ofO ((idxD ds d).map fun j => .sh (.int (j : Nat))) else .stk
    | _ => .stk
  | _ => .stk
theorem dpAll_ds {K : PySem.W.Frag} {ds : List D} {vs : List V} (le : Sub G H) (r : RpDs W G ds vs) (h : plainDL ds = true) : DpAll K H vs (toPyL ds) := by
  induction r with
  | nil => exact .nil
  | cons r1 r2 ih =>
    rw [plainDL, Bool.and_eq_true] at h
    exact .cons (r1.dp le h.1) (ih h.2)
theorem idx_fin {K : PySem.W.Frag} {ds : List D} {d : D} {vs : List V} {y : V} {j : Nat} (le : Sub G H) (r : RpDs W G ds vs) (ry : RpD W.C G d y) (hp : (pyOkL ds && pyOk d) = true) (hj : idxD ds d = some j) :
    ∃ (d' : PyData) (ds' : List PyData) (z : PyData), DpAll K H vs ds' ∧ Dp K H y d' ∧ SeqAt.shaped (.list ds') = true ∧ SeqAt.shaped d' = true ∧ ds'[j]? = some z ∧ PyData.eqv z d' = true ∧ (∀ (m : Nat) (z' : PyData), m < j → ds'[m]? = some z' → PyData.eqv z' d' = false) := by
  rw [Bool.and_eq_true] at hp
  obtain ⟨h1, h2⟩ := hp
  unfold pyOkL at h1
  unfold pyOk at h2
  rw [Bool.and_eq_true] at h1 h2
  unfold idxD at hj
  rw [List.findIdx?_eq_some_iff_getElem] at hj
  obtain ⟨hl, hd, hno⟩ := hj
  refine ⟨toPy d, toPyL ds, toPy ds[j], dpAll_ds le r h1.1, ry.dp le h2.1, h1.2, h2.2, ?_, hd, fun m z' hm hz => ?_⟩
  · rw [toPyL_map, List.getElem?_map, List.getElem?_eq_getElem hl]; rfl
  · rw [toPyL_map, List.getElem?_map, List.getElem?_eq_getElem (by omega : m < ds.length)] at hz
    cases hz
    have := hno m hm
    rw [Bool.not_eq_true] at this
    exact this
theorem SV_idx {f g : En → RP} {o e : Expr} {apos cpos : Pos} (hu : X.A.units + 65 < cLine) (ho : SP X W Wx f o) (he : SP X W Wx g e) (hbase : attributeBase o "index" X.env (eval o X.env) = eval o X.env := by rfl)
    (hfew : ((backTo cpos (starEach [e] X.env)).all (fun x => !x.1) && (backToKw cpos (keywordEach [] X.env)).all (fun x => x.1.isSome)
      && decide (([e] : List Expr).length + ([] : List Keyword).length + (if ([] : List Keyword).isEmpty then 0 else 1) < 30)) = true := by rfl)
    (hline : (apos.endLine == cpos.line) = true := by rfl) (hs : starEach [e] X.env = (false, eval e X.env) :: starEach [] X.env := by rfl) (hplain : (backTo cpos (starEach [] X.env)).any (·.1) = false := by rfl) : SV X W Wx (bIdx f g) (.Call (.Attribute o "index" apos) [e] [] cpos) := fun env =>
  (pe_idx hu (ho env) (he env) hbase hfew hline hs hplain).imp fun σ H Q => by
    rintro ⟨G, Fs, S, q⟩
    refine ⟨G, Fs, S, ?_⟩
    unfold bIdx at q
    cases e1 : f env with
    | stk => rw [e1] at q; exact q
    | exc c u => rw [e1] at q; exact q
    | ok x =>
      rw [e1, bind_ok] at q
      intro v G1 H1 F1 s1 r1
      cases x with
      | sh dx =>
        cases dx with
        | tup m ds =>
          cases m with
          | false => exact q.elim
          | true =>
            have r' := rp_sh r1
            cases r' with
            | @tup _ _ a vs h1 h2 h3 =>
              obtain ⟨o, h4, h5⟩ := h1
              refine ⟨a, rfl, .inr ⟨⟨o, vs, s1.le _ _ h4, h5⟩, G1, Fs, S.step0 s1, ?_⟩⟩
              dsimp only at q
              cases e2 : g env with
              | stk => rw [e2] at q; exact q
              | exc c u => rw [e2] at q; exact fun G' H' s => q G' H' (s1.trans s)
              | ok y =>
                rw [e2, bind_ok] at q
                intro u G2 H2 F2 s2 r2
                cases y with
                | sh d =>
                  dsimp only at q
                  cases hp : pyOkL ds && pyOk d with
                  | false => rw [hp, if_neg (by decide)] at q; exact q.elim
                  | true =>
                    rw [hp, if_pos rfl] at q
                    cases hj : idxD ds d with
                    | none => rw [hj] at q; exact q.elim
                    | some j =>
                      rw [hj] at q
                      obtain ⟨d', ds', z, c1, c2, c3, c4, c5, c6, c7⟩ := idx_fin (K := X.K) (H := H2) s2.le (RpDs.sub s2.g (paired_of h2 h3)) (rp_sh r2) hp hj
                      exact ⟨vs, .inl (.inr ⟨o, s2.le _ _ (s2.g _ _ h4)⟩), d', ds', j, z, c1, c2, c3, c4, c5, c6, c7, q _ G2 H2 Emp (s1.trans s2) (.sh' (.int _))⟩
                | _ => exact q.elim
        | lst ds =>
          have r' := rp_sh r1
          cases r' with
          | @lst _ a vs h1 h2 h3 =>
            refine ⟨a, rfl, .inl ⟨⟨vs, SqL.of (s1.le _ _ h1)⟩, G1, Fs, S.step0 s1, ?_⟩⟩
            dsimp only at q
            cases e2 : g env with
            | stk => rw [e2] at q; exact q
            | exc c u => rw [e2] at q; exact fun G' H' s => q G' H' (s1.trans s)
            | ok y =>
              rw [e2, bind_ok] at q
              intro u G2 H2 F2 s2 r2
              cases y with
              | sh d =>
                dsimp only at q
                cases hp : pyOkL ds && pyOk d with
                | false => rw [hp, if_neg (by decide)] at q; exact q.elim
                | true =>
                  rw [hp, if_pos rfl] at q
                  cases hj : idxD ds d with
                  | none => rw [hj] at q; exact q.elim
                  | some j =>
                    rw [hj] at q
                    obtain ⟨d', ds', z, c1, c2, c3, c4, c5, c6, c7⟩ := idx_fin (K := X.K) (H := H2) s2.le (RpDs.sub s2.g (paired_of h2 h3)) (rp_sh r2) hp hj
                    exact ⟨vs, SqL.of (s2.le _ _ (s2.g _ _ h1)), d', ds', j, z, c1, c2, c3, c4, c5, c6, c7, q _ G2 H2 Emp (s1.trans s2) (.sh' (.int _))⟩
              | _ => exact q.elim
        | _ => exact q.elim
      | _ => exact q.elim
end
end
end FD


set_option Elab.async false
set_option linter.all false
set_option maxRecDepth 100000
namespace FD
noncomputable section
open PySem PySem.Spec L2
section
variable {X : Cx} {W : Wd} {Wx : WX} {pr : List Nat} {G G' H H' : Hp} {env env' : En} {σ σ' : St} {Fs Fs' : Nat → Fp} {F F' : Fp}
def kTupM (K : PySem.W.Frag) (x : V) (H : Hp) (Q : VK) : Prop :=
  (∃ p xs, x = .ref p ∧ SqL K H p xs ∧ ∀ q o, o.dict = none → H q = none → Q (.ref q) (upd H q (.frz o (.tup xs)))) ∨ (∃ p xs, x = .ref p ∧ SqT K H p xs ∧ Q (.ref p) H)
open PyProof.Rows hiding St in
theorem call_tupleM : CallR X (.type "tuple") (fun xs H Q => ∃ x, xs = [x] ∧ kTupM X.K x H Q) := by
  intro pins s σ H xs us Q I rs h
  obtain ⟨x, rfl, h⟩ := h
  obtain ⟨v, rfl, r⟩ := vals1 rs
  rcases h with ⟨p, xs, rfl, hs, q⟩ | ⟨p, xs, rfl, hs, q⟩
  · obtain rfl : v = .ref p := r
    obtain ⟨its, rv, pl, hz⟩ := I.list hs
    refine call_tuple_list pl.isList (fun h' hk => ?_) (by rw [List.size_toArray, ← rv.length]; exact hz)
    have I1 : Inv X pins σ H { s with heap := h' } := I.kept (t' := s.toks) hk
    have I2 : Inv X pins σ (upd H h'.objs.size (.frz { cls := .type "tuple", data := .seq its.toArray } (.tup xs))) { s with heap := h'.push { cls := .type "tuple", data := .seq its.toArray } } :=
      I1.laid (t' := s.toks) (fun b o e => Heap.get?_push_of_some _ e) (Nat.le_refl _) (show ObjOk X.prog X.w _ _ _ (.frz _ (.tup xs)) from ⟨Heap.get?_push_size _ rfl, hz, its, rv, IsTup.new _ _⟩)
    exact ⟨.ref h'.objs.size, _, I2, rfl, q _ _ rfl (I1.hok.fresh (Nat.le_refl _))⟩
  · obtain rfl : v = .ref p := r
    obtain ⟨its, rv, pl, hz⟩ := I.tuple hs
    exact call_tuple_tup pl ⟨.ref p, H, I, rfl, q⟩
def oTupleM : List O → Option O
  | [.sh (.tup m xs)] => some (.sh (.tup m xs))
  | [x] => (itemsD x).bind fun p => if p.1 then some (.sh (.tup true p.2)) else none
  | _ => none
theorem step_frz (le : Sub G H) (b : TabOk W G H) {p : Addr} {o : HO} (hp : H p = none) : Step W G H Emp (upd G p o) (upd H p o) Emp := step_sh le b hp
theorem v_tupleM : CallR X (.type "tuple") (fun xs H Q => ∃ x, xs = [x] ∧ kTupM X.K x H Q) ∧ OpN W (fun xs H Q => ∃ x, xs = [x] ∧ kTupM X.K x H Q) oTupleM := by
  refine ⟨call_tupleM, opN_1 (fun xs z h => ?_) fun G H x z v F1 Q le b r e q => ?_⟩
  · unfold oTupleM at h
    split at h
    · exact ⟨_, rfl⟩
    · exact ⟨_, rfl⟩
    · cases h
  · have gen : ((itemsD x).bind fun p => if p.1 then some (O.sh (.tup true p.2)) else none) = some z → kTupM X.K v H Q := fun e => by
      cases e1 : itemsD x with
      | none => rw [e1] at e; cases e
      | some p =>
        obtain ⟨bb, ds⟩ := p
        rw [e1, Option.bind_some] at e
        cases bb with
        | false => cases e
        | true =>
          cases e
          obtain ⟨p, ws, rfl, hs, hp⟩ := itemsD_some (K := X.K) le r e1
          refine .inl ⟨p, ws, rfl, by simpa using hs, fun p' o ho hp' => ?_⟩
          refine q _ _ _ Emp (step_frz le b hp') (.sh' ?_)
          have hd := hp.sub (sub_upd (none_of_le le hp') (o := .frz o (.tup ws)))
          exact .tup (m := true) ⟨o, upd_same, ho⟩ hd.length (paired_get' hd)
    refine ⟨v, rfl, ?_⟩
    unfold oTupleM at e
    split at e
    · rename_i e0
      cases e0
      cases e
      have r' := rp_sh r
      cases r' with
      | @tup _ _ p vs h1 h2 h3 => exact .inr ⟨p, vs, rfl, .inl (Rd.sub le h1.rd), q _ G H Emp (Step.refl le b) (.sh' (.tup h1 h2 h3))⟩
    · rename_i e0
      cases e0
      exact gen e
    · cases e
def tR (W : Wd) (Wx : WX) (env : En) (r : R Unit (Int × Int)) : St → Hp → (Int → Int → Hp → Prop) → Prop := fun σ H Q => ∃ G Fs, Sim W G env σ H Fs ∧ match r with
  | .ok p => ∀ G' H', Step W G H Emp G' H' Emp → Q p.1 p.2 H'
  | .exc c _ => ∀ G' H', Step W G H Emp G' H' Emp → Wx (.ref (W.C.cls c)) none σ H'
  | .stk => False
def SR (X : Cx) (W : Wd) (Wx : WX) (f : En → R Unit (Int × Int)) (e : Expr) : Prop := ∀ env, PRg X e (tR W Wx env (f env))
theorem PRg.imp {e : Expr} {t t' : St → Hp → (Int → Int → Hp → Prop) → Prop} (h : PRg X e t) (hi : ∀ σ H Q, t' σ H Q → t σ H Q) : PRg X e t' := fun pins s σ H Q I q => h pins s σ H Q I (hi σ H Q q)
def rg1 (f : En → RP) : En → R Unit (Int × Int) := fun env => (f env).bind fun x => ofO ((asI x).map fun n => (0, n))
def rg2 (f g : En → RP) : En → R Unit (Int × Int) := fun env => (f env).bind fun x => (g env).bind fun y => ofO ((asI x).bind fun i => (asI y).map fun j => (i, j))
theorem SR_1 {f : En → RP} {a : Expr} {p pos : Pos} (hg : Gl X "range") (hm : X.mg "range" = none) (ha : SP X W Wx f a) (na : starEach [a] X.env = (false, eval a X.env) :: starEach [] X.env := by rfl) : SR X W Wx (rg1 f) (.Call (.Name "range" p) [a] [] pos) := fun env => PRg.imp (prg_1 hg hm (ha env) na) fun σ H Q => by
  rintro ⟨G, Fs, S, q⟩
  refine ⟨G, Fs, S, ?_⟩
  unfold rg1 at q
  cases e1 : f env with
  | stk => rw [e1] at q; exact q
  | exc c u => rw [e1] at q; exact q
  | ok x =>
    rw [e1, bind_ok] at q
    intro v G1 H1 F1 s1 r1
    cases e2 : asI x with
    | none => rw [e2] at q; exact q.elim
    | some n =>
      rw [e2] at q
      rw [asI_some e2] at r1
      exact ⟨n, rp_int r1, q G1 H1 s1⟩
def okR (a b : Int) : Bool := okI a && okI b && decide ((b - a).toNat ≤ lim)
theorem okR_ok {a b : Int} (h : okR a b = true) : RgOk a b := by
  unfold okR at h
  rw [Bool.and_eq_true, Bool.and_eq_true] at h
  obtain ⟨⟨h1, h2⟩, h3⟩ := h
  obtain ⟨h4, h5⟩ := okI_ok h1
  obtain ⟨h6, h7⟩ := okI_ok h2
  exact ⟨h4, h5, h6, h7, by have := lim_le (of_decide_eq_true h3); rw [sizeLine_eq] at this; exact this⟩
theorem rg_rp (a b : Int) : RpDs W G (rngD a b) (rgV a b) := by
  unfold rngD rgV
  induction List.range (b - a).toNat with
  | nil => exact .nil
  | cons n r ih => exact .cons (.int _) ih
def bLstR (f : En → R Unit (Int × Int)) : En → RP := fun env => (f env).bind fun p => if okR p.1 p.2 then .ok (.lst ((rngD p.1 p.2).map .sh)) else .stk
def bTupR (f : En → R Unit (Int × Int)) : En → RP := fun env => (f env).bind fun p => if okR p.1 p.2 then .ok (.sh (.tup false (rngD p.1 p.2))) else .stk
theorem SV_listR {f : En → R Unit (Int × Int)} {e : Expr} {p pos : Pos} (hc : X.calm = true) (hg : Gl X "list") (hm : X.mg "list" = none) (he : SR X W Wx f e) (na : starEach [e] X.env = (false, eval e X.env) :: starEach [] X.env := by rfl) : SV X W Wx (bLstR f) (.Call (.Name "list" p) [e] [] pos) := fun env => (pe_listRg hc hg hm (he env) na).imp fun σ H Q => by
  rintro ⟨G, Fs, S, q⟩
  refine ⟨G, Fs, S, ?_⟩
  unfold bLstR at q
  cases e1 : f env with
  | stk => rw [e1] at q; exact q
  | exc c u => rw [e1] at q; exact q
  | ok pp =>
    rw [e1, bind_ok] at q
    intro G1 H1 s1
    cases hk : okR pp.1 pp.2 with
    | false => rw [hk, if_neg (by decide)] at q; exact q.elim
    | true =>
      rw [hk, if_pos rfl] at q
      refine ⟨okR_ok hk, fun p hp => ?_⟩
      exact q _ _ _ _ (s1.trans (step_own s1.le s1.b hp)) (RpDs.own (none_of_le s1.le hp) upd_same (rg_rp _ _))
theorem SV_tupR {f : En → R Unit (Int × Int)} {e : Expr} {p pos : Pos} (hc : X.calm = true) (hg : Gl X "tuple") (hm : X.mg "tuple" = none) (he : SR X W Wx f e) (na : starEach [e] X.env = (false, eval e X.env) :: starEach [] X.env := by rfl) : SV X W Wx (bTupR f) (.Call (.Name "tuple" p) [e] [] pos) := fun env => (pe_tupRg hc hg hm (he env) na).imp fun σ H Q => by
  rintro ⟨G, Fs, S, q⟩
  refine ⟨G, Fs, S, ?_⟩
  unfold bTupR at q
  cases e1 : f env with
  | stk => rw [e1] at q; exact q
  | exc c u => rw [e1] at q; exact q
  | ok pp =>
    rw [e1, bind_ok] at q
    intro G1 H1 s1
    cases hk : okR pp.1 pp.2 with
    | false => rw [hk, if_neg (by decide)] at q; exact q.elim
    | true =>
      rw [hk, if_pos rfl] at q
      refine ⟨okR_ok hk, fun p hp => ?_⟩
      exact q _ _ _ Emp (s1.trans (step_sh s1.le s1.b hp)) (.sh' (RpDs.tup upd_same (rg_rp _ _)))
def eMake (c : Nat) (T : List O → RC) (h : En → R En (List O × En)) : En → RE := fun env => (h env).bind fun p => match T (.ins c [] :: p.1) with
  | .ok _ [x] => .ok (x, p.2)
  | .exc c' _ => .exc c' p.2
  | _ => .stk
theorem Paired.app {α β : Type} {R : α → β → Prop} : ∀ {a c : List α} {b d : List β}, Paired R a b → Paired R c d → Paired R (a ++ c) (b ++ d)
  | _, _, _, _, .nil, h => h
  | _, _, _, _, .cons r t, h => .cons r (Paired.app t h)
def putFG {α : Type} (f : Str) (v : α) : List (Str × α) → List (Str × α)
  | [] => [(f, v)]
  | (g, x) :: r => if g = f then (g, v) :: r else (g, x) :: putFG f v r
def placeF (f : Str) : List Str → Nat
  | [] => 0
  | g :: r => if g = f then 0 else placeF f r + 1
theorem putFG_vals {α : Type} (f : Str) (v : α) : ∀ fs : List (Str × α), ∀ i, ((putFG f v fs).map (·.2))[i]? = if i = placeF f (fs.map (·.1)) then some v else (fs.map (·.2))[i]?
  | [], i => by
    unfold putFG placeF
    cases i with
    | zero => rfl
    | succ i => simp
  | (g, x) :: r, i => by
    unfold putFG
    rw [List.map_cons]
    unfold placeF
    by_cases h : g = f
    · rw [if_pos h, if_pos h]
      cases i with
      | zero => rfl
      | succ i => simp
    · rw [if_neg h, if_neg h]
      cases i with
      | zero => simp
      | succ i =>
        have := putFG_vals f v r i
        simp only [List.map_cons, List.getElem?_cons_succ, Nat.add_right_cancel_iff]
        exact this
theorem putFG_keys {α β : Type} (f : Str) (v : α) (w : β) : ∀ {fs : List (Str × α)} {gs : List (Str × β)}, fs.map (·.1) = gs.map (·.1) → (putFG f v fs).map (·.1) = (putFG f w gs).map (·.1)
  | [], [], _ => rfl
  | [], _ :: _, h => by cases h
  | _ :: _, [], h => by cases h
  | (g, x) :: r, (g', x') :: r', h => by
    rw [List.map_cons, List.map_cons] at h
    injection h with h1 h2
    have h1 : g = g' := h1
    subst h1
    unfold putFG
    by_cases h : g = f
    · rw [if_pos h, if_pos h, List.map_cons, List.map_cons, h2]
    · rw [if_neg h, if_neg h, List.map_cons, List.map_cons, putFG_keys f v w h2]
def insG (env : En) (i : Nat) : Option (Nat × List (Str × O)) := match gt env i with
  | some (.ins c fs) => some (c, fs)
  | _ => none
def sFldS (cs : List Nat) (i : Nat) (f : Str) (g : En → RE) : En → RS := fun env => match g env with
  | .ok (d, e) => match insG e i with
    | some (c, fs) => if cs.contains c && decide (fs.length < 1000) then .nx (e.set i (some (.ins c (putFG f d fs)))) else .stk
    | none => .stk
  | .exc c e => .exc c e
  | .stk => .stk
def sAugV (i : Nat) (go : O → O → Option O) (f : En → RE) : En → RS := fun env => match gt env i with
  | some (.sh d) => match f env with
    | .ok (y, e) => match go (.sh d) y with
      | some z => .nx (e.set i (some z))
      | none => .stk
    | .exc c e => .exc c e
    | .stk => .stk
  | _ => .stk
def sExt (i : Nat) (f : En → RE) : En → RS := fun env => match lstG env i with
  | none => .stk
  | some _ => match f env with
    | .ok (y, e) => match (lstG e i).bind allSh with
      | some ds => match lstO y with
        | some ys => if szOk (ds.length + ys.length) then .nx (e.set i (some (.lst ((ds ++ ys).map .sh)))) else .stk
        | none => .stk
      | none => .stk
    | .exc c e => .exc c e
    | .stk => .stk
theorem SS_ext (i : Nat) {f : En → RE} {x : Str} {e : Expr} {pos' pos : Pos} (hN : X.N.Nodup) (he : SE X W Wx f e) (hi : X.N[i]? = some x := by rfl) (hx : Loc X.env.scope x := by first | exact .inl rfl | exact .inr rfl)
    (hf : X.fn x = true ∨ X.env.scope.names.lookup x = some .local := by first | exact .inl rfl | exact .inr rfl) : SS X W Wx pr (sExt i f) (.AugAssign (.Name x pos') .Add e pos) := fun env => (ps_aug (ti := rExt2) hN hi hx (he env) iop_ext hf).imp fun D σ H => by
  rintro ⟨G, Fs, S, q⟩
  unfold sExt at q
  cases e0 : lstG env i with
  | none => rw [e0] at q; exact q.elim
  | some xs0 =>
    rw [e0] at q
    obtain ⟨p0, vs0, Fa0, L0⟩ := S.lstAt (lstG_some e0)
    refine ⟨_, L0.sl, G, Fs, S, ?_⟩
    dsimp only at q
    cases e1 : f env with
    | stk => rw [e1] at q; exact q
    | exc c u => rw [e1] at q; exact fun G' H' Fs' s S' => q σ G' H' Fs' s S' (Pr.refl _ _)
    | ok pp =>
      obtain ⟨y, e2⟩ := pp
      rw [e1] at q
      intro v G1 H1 F1 Fs1 s1 r1 S1 d1
      dsimp only at q
      cases e3 : lstG e2 i with
      | none => rw [e3] at q; exact q.elim
      | some xs =>
        rw [e3, Option.bind_some] at q
        cases e4 : allSh xs with
        | none => rw [e4] at q; exact q.elim
        | some ds =>
          rw [e4] at q
          dsimp only at q
          cases e5 : lstO y with
          | none => rw [e5] at q; exact q.elim
          | some ys =>
            rw [e5] at q
            dsimp only at q
            cases hz : szOk (ds.length + ys.length) with
            | false => rw [hz, if_neg (by decide)] at q; exact q.elim
            | true =>
              rw [hz, if_pos rfl] at q
              obtain ⟨p1, vs, Fa, L⟩ := S1.lstAt (lstG_some e3)
              have ep : p1 = p0 := by
                have := L.sl
                rw [L0.sl] at this
                cases this; rfl
              subst ep
              have ex := allSh_some e4
              have hv : RpDs W G1 ds vs := RpDs.of (H := H1) (by
                rw [← ex]
                exact paired_of L.len fun i d v h1 h2 => ⟨Fa i, L.rp i d v h1 h2⟩)
              obtain ⟨b, zs, rfl, hb, hzs⟩ := lstO_some s1.le r1 e5
              refine ⟨p1, b, vs, zs, rfl, rfl, L.h, hb, by rw [← hv.length, ← hzs.length]; exact szOk_sz hz, ?_⟩
              obtain ⟨s2, S2⟩ := L.shared S1 (Paired.app hv hzs : RpDs W G1 (ds ++ ys) (vs ++ zs))
              rw [set_self L.sl]
              exact q σ G1 _ _ ((s1.wide (F1' := All Fs1) (fun _ h => h) fun a h => .inr (.inr h)).trans s2) S2 (Pr.refl _ _)
end
end
end FD


set_option Elab.async false
set_option linter.all false
set_option maxRecDepth 100000
namespace FD
noncomputable section
open PySem PySem.Spec L2
section
variable {X : Cx} {W : Wd} {Wx : WX} {pr : List Nat} {G G' H H' : Hp} {env env' : En} {σ σ' : St} {Fs Fs' : Nat → Fp} {F F' : Fp}
def bChain (go go' : O → O → Option O) (f g h : En → RP) : En → RP := fun env => (f env).bind fun x => (g env).bind fun y => (ofO ((go x y).bind asB) : RB).bind fun k => if k then (h env).bind fun z => ofO (go' y z) else .ok (.sh (.bl false))
theorem chain_core {ta tb tc : TE} {r r' : R2} {go go' : O → O → Option O} {f g h : En → RP} {Q : VK} (ho : Op2 W r go) (ho' : Op2 W r' go') (ha : ∀ Q', tP W Wx env (f env) σ H Q' → ta σ H Q') (hb : ∀ H' Q', tP W Wx env (g env) σ H' Q' → tb σ H' Q') (hc : ∀ H' Q', tP W Wx env (h env) σ H' Q' → tc σ H' Q')
    (q : tV W Wx env (bChain go go' f g h env) σ H Q) : tChain r r' ta tb tc σ H Q := by
  obtain ⟨G, Fs, S, q⟩ := q
  refine ha _ ⟨G, Fs, S, ?_⟩
  unfold bChain at q
  cases e1 : f env with
  | stk => rw [e1] at q; exact q
  | exc c u => rw [e1] at q; exact q
  | ok x =>
    rw [e1, bind_ok] at q
    intro v G1 H1 F1 s1 r1
    refine hb _ _ ⟨G1, Fs, S.step0 s1, ?_⟩
    cases e2 : g env with
    | stk => rw [e2] at q; exact q
    | exc c u => rw [e2] at q; exact fun G' H' s => q G' H' (s1.trans s)
    | ok y =>
      rw [e2, bind_ok] at q
      intro u G2 H2 F2 s2 r2
      have s12 := s1.trans s2
      cases e3 : go x y with
      | none => rw [e3] at q; exact q.elim
      | some z =>
        rw [e3, Option.bind_some] at q
        refine ho G2 H2 x y z v u F1 F2 _ s2.le s2.b (r1.step0 s2) r2 e3 fun w G3 H3 F3 s3 r3 => ?_
        cases e4 : asB z with
        | none => rw [e4] at q; exact q.elim
        | some k =>
          rw [e4, ofO_some, bind_ok] at q
          obtain ⟨rfl, rfl⟩ := rp_bl r3 e4
          refine ⟨k, rfl, ?_⟩
          have s123 := s12.trans s3.emp
          cases k with
          | false => rw [if_neg (by decide)] at q ⊢; exact q _ G3 H3 Emp s123 (.sh' (.bl _))
          | true =>
            rw [if_pos rfl] at q ⊢
            refine hc _ _ ⟨G3, Fs, ((S.step0 s1).step0 s2).step0 s3, ?_⟩
            cases e5 : h env with
            | stk => rw [e5] at q; exact q
            | exc c u => rw [e5] at q; exact fun G' H' s => q G' H' (s123.trans s)
            | ok t =>
              rw [e5, bind_ok] at q
              intro w4 G4 H4 F4 s4 r4
              cases e6 : go' y t with
              | none => rw [e6] at q; exact q.elim
              | some z' =>
                rw [e6] at q
                exact ho' G4 H4 y t z' u w4 F2 F4 Q s4.le s4.b ((r2.step0 s3).step0 s4) r4 e6 fun w' G' H' F' s r => q w' G' H' F' ((s123.trans s4).trans s) r
theorem SV_chain {op op' : CmpOp} {r r' : R2} {go go' : O → O → Option O} {f g h : En → RP} {a b c : Expr} {pos : Pos} (hr : OpR X (compareOp op) r) (ho : Op2 W r go) (hr' : OpR X (compareOp op') r') (ho' : Op2 W r' go') (ha : SP X W Wx f a) (hb : SP X W Wx g b) (hc : SP X W Wx h c)
    (hm : lastMarks [op, op'] [b, c] = false := by with_unfolding_all rfl) : SV X W Wx (bChain go go' f g h) (.Compare a [op, op'] [b, c] pos) := fun env => (pe_chain hr hr' (ha env) (hb env) (hc env) hm).imp fun σ H Q q => chain_core ho ho' (fun _ h => h) (fun _ _ h => h) (fun _ _ h => h) q
theorem ST_chain {op op' : CmpOp} {r r' : R2} {go go' : O → O → Option O} {f g h : En → RP} {a b c : Expr} {pos : Pos} (hr : OpR X (compareOp op) r) (ho : Op2 W r go) (hr' : OpR X (compareOp op') r') (ho' : Op2 W r' go') (ha : SP X W Wx f a) (hb : SP X W Wx g b) (hc : SP X W Wx h c)
    (hm : lastMarks [op, op'] [b, c] = false := by with_unfolding_all rfl) : ST X W Wx (bT (bChain go go' f g h)) (.Compare a [op, op'] [b, c] pos) := fun env => (pt_chain hr hr' (ha env) (hb env) (hc env) hm).imp fun σ H Q q => by
  refine chain_core ho ho' (fun _ h => h) (fun _ _ h => h) (fun _ _ h => h) ?_
  obtain ⟨G, Fs, S, q⟩ := q
  refine ⟨G, Fs, S, ?_⟩
  unfold bT at q
  cases e1 : bChain go go' f g h env with
  | stk => rw [e1] at q; exact q
  | exc c u => rw [e1] at q; exact q
  | ok x =>
    rw [e1, bind_ok] at q
    intro v G1 H1 F1 s1 r1
    cases e2 : asB x with
    | none => rw [e2] at q; exact q.elim
    | some b =>
      rw [e2] at q
      obtain ⟨rfl, rfl⟩ := rp_bl r1 e2
      exact ⟨b, rfl, q G1 H1 s1.emp⟩
def sAsgG (tgt : D → En → Option En) (f : En → RE) : En → RS := fun env => match f env with
  | .ok (.sh d, e) => match tgt d e with
    | some e' => .nx e'
    | none => .stk
  | .ok _ => .stk
  | .exc c e => .exc c e
  | .stk => .stk
def eSl (f : En → RE) (l h : En → R Unit (Option Int)) : En → RE := fun env => (f env).bind fun p => match l p.2 with
  | .ok a => match h p.2 with
    | .ok b => match oSl p.1 a b with
      | some z => .ok (z, p.2)
      | none => .stk
    | .exc c _ => .exc c p.2
    | .stk => .stk
  | .exc c _ => .exc c p.2
  | .stk => .stk
def eSlLo (f : En → RP) (l : En → RE) : En → RE := fun env => match f env with
  | .ok (.sh d) => (l env).bind fun p => match (asI p.1).bind fun i => oSl (.sh d) (some i) none with
    | some z => .ok (z, p.2)
    | none => .stk
  | .exc c _ => .exc c env
  | _ => .stk
def forO (i : Nat) (body : En → RS) : List O → En → RS
  | [], env => .nx env
  | x :: xs, env => match body (env.set i (some x)) with
    | .nx e => forO i body xs e
    | .ct e => forO i body xs e
    | .bk e => .nx e
    | r => r
def sForO (f : En → RE) (i : Nat) (body : En → RS) : En → RS := fun env => match f env with
  | .ok (.lst xs, e) => forO i body xs e
  | .ok _ => .stk
  | .exc c e => .exc c e
  | .stk => .stk
theorem SS_forO (i : Nat) {x : Str} {iter : Expr} {a : List Stmt} {f : En → RE} {g : En → RS} {tpos pos : Pos} (hp : PassesOwn (model X.prog X.w) X.A X.env X.xe) (hc : X.calm = true) (hN : X.N.Nodup) (hf : SE X W Wx f iter) (ha : SSs X W Wx pr g a) (hpi : i ∉ pr := by decide) (hi : X.N[i]? = some x := by rfl) (hx : Loc X.env.scope x := by first | exact .inl rfl | exact .inr rfl)
    (hfn : X.fn x = true ∨ X.env.scope.names.lookup x = some .local := by first | exact .inl rfl | exact .inr rfl) (hs : ∀ x, foldedSetIterable iter X.env x = pure x := by intro _; rfl) : SS X W Wx pr (sForO f i g) (.For (.Name x tpos) iter a [] pos) := fun env => by
  refine (ps_for hp hc (pi_seq (hf env)) (pg_name hN hi hx hfn) ha.any hs).imp fun D σ H q => ?_
  rw [tS_iff] at q
  obtain ⟨G, Fs, S, q⟩ := q
  refine ⟨G, Fs, S, ?_⟩
  unfold sForO at q
  cases e1 : f env with
  | stk => rw [e1] at q; exact q
  | exc c e => rw [e1] at q; exact fun G' H' Fs' s S' => q σ G' H' Fs' s S' (Pr.refl _ _)
  | ok pp =>
    obtain ⟨y, e⟩ := pp
    rw [e1] at q
    intro v G1 H1 F1 Fs1 s1 r1 S1 d1
    cases y with
    | lst xs =>
      cases r1 with
      | @lst _ p vs _ Fa g1 h1 l1 k1 dj1 bd1 hF1 =>
        dsimp only at q
        refine ⟨p, rfl, .inl ⟨⟨vs, SqL.of h1⟩, ?_⟩⟩
        have q1 := q.step s1 (Pr.refl _ _)
        have w : Walk (Itl X.K p) xs.length (fun H => SqL X.K H p vs) (YAt vs) := by rw [l1]; exact walk_list
        refine for_it (g := gName i) (tb := fun D σ H => ∃ env, tS W Wx pr env (g env) D σ H) (D := D) w (fun k σ' H' => ∃ env' G' Fs', G' p = none ∧ H' p = some (.lst vs) ∧ Sim W G' env' σ' H' Fs' ∧ (∀ j a, Fs' j a → a ≠ p ∧ ∀ m, k ≤ m → ¬ Fa m a) ∧
          (∀ (m : Nat) (d : O) (v : V), k ≤ m → xs[m]? = some d → vs[m]? = some v → RpO W.C G' H' d v (Fa m)) ∧ qS W Wx pr (forO i g (xs.drop k) env') D G' σ' H' (fun a => (a = p ∨ ∃ m, k ≤ m ∧ Fa m a) ∨ All Fs' a)) ?_ ?_ ?_ ?_
        · refine ⟨e, G1, Fs1, g1, h1, S1, fun j a h => ⟨fun e => d1 j a ((hF1 a).mpr (.inl e)) h, fun m _ h2 => d1 j a ((hF1 a).mpr (.inr ⟨m, h2⟩)) h⟩, fun m d v _ h2 h3 => k1 m d v h2 h3, ?_⟩
          exact q1.step (Step.refl' S1.le S1.tb (fun a h => h.imp (fun h => (hF1 a).mpr (h.imp id fun ⟨m, _, h⟩ => ⟨m, h⟩)) id)) (Pr.refl _ _)
        · rintro k σ' H' hk ⟨env', G', Fs', gp, hp', _⟩
          exact SqL.of hp'
        · rintro k x σ' H' H2 hk ⟨env', G', Fs', gp, hp', S', dj', rr, q'⟩ ⟨rfl, hx⟩
          have hdr : xs.drop k = xs[k] :: xs.drop (k + 1) := List.drop_eq_getElem_cons hk
          rw [hdr] at q'
          unfold forO at q'
          have rk := rr k xs[k] x (Nat.le_refl _) (List.getElem?_eq_getElem hk) hx
          have S2 := S'.set (i := i) rk fun j a h h2 => (dj' j a h2).2 k (Nat.le_refl _) h
          refine ⟨env'.set i (some xs[k]), G', _, S2, ?_⟩
          have q2 := q'.step (σ' := σ'.set i (some x)) (F' := fun a => (a = p ∨ ∃ m, k + 1 ≤ m ∧ Fa m a) ∨ All (fun j => if j = i then Fa k else Fs' j) a) (Step.refl' S'.le S'.tb fun a h => by
            rcases h with (h | ⟨m, h, h2⟩) | h
            · exact .inl (.inl h)
            · exact .inl (.inr ⟨m, by omega, h2⟩)
            · rcases all_set a h with h | h
              · exact .inl (.inr ⟨k, Nat.le_refl _, h⟩)
              · exact .inr h) (Pr.set hpi)
          have hidden : ∀ {G4 H4 : Hp} {Fs4 : Nat → Fp}, Step W G' H2 (All (fun j => if j = i then Fa k else Fs' j)) G4 H4 (All Fs4) → G4 p = none ∧ H4 p = some (.lst vs) ∧ (∀ j a, Fs4 j a → a ≠ p ∧ ∀ m, k + 1 ≤ m → ¬ Fa m a) ∧ (∀ (m : Nat) (d : O) (v : V), k + 1 ≤ m → xs[m]? = some d → vs[m]? = some v → RpO W.C G4 H4 d v (Fa m)) ∧
              Step W G' H2 (fun a => (a = p ∨ ∃ m, k + 1 ≤ m ∧ Fa m a) ∨ All (fun j => if j = i then Fa k else Fs' j) a) G4 H4 (fun a => (a = p ∨ ∃ m, k + 1 ≤ m ∧ Fa m a) ∨ All Fs4 a) := fun {G4 H4 Fs4} s4 => by
            have np : ¬ All (fun j => if j = i then Fa k else Fs' j) p := fun h => by
              rcases all_set p h with h | ⟨j, h⟩
              · exact (bd1 k p h).2 rfl
              · exact (dj' j p h).1 rfl
            have nm : ∀ m, k + 1 ≤ m → ∀ a, Fa m a → ¬ All (fun j => if j = i then Fa k else Fs' j) a := fun m hm a ha h => by
              rcases all_set a h with h | ⟨j, h⟩
              · exact dj1 m k a (by omega) ha h
              · exact (dj' j a h).2 m (by omega) ha
            have g4 : G4 p = none := by
              cases hq : G4 p with
              | none => rfl
              | some u =>
                rcases s4.n p (by rw [hq]; simp) with z | z | z
                · exact absurd gp z
                · exact absurd z np
                · rw [hp'] at z; cases z
            refine ⟨g4, s4.h p _ hp' np True.intro, fun j a h => ⟨fun e => ?_, fun m hm h2 => ?_⟩, fun m d v hm h2 h3 => (rr m d v (by omega) h2 h3).step s4 (nm m hm), s4.wide (fun _ h => .inr h) fun a h => h.elim (fun h => .inl (.inl h)) .inr⟩
            · subst e
              rcases s4.f a ⟨j, h⟩ with z | z
              · exact np z
              · rw [hp'] at z; cases z
            · rcases s4.f a ⟨j, h⟩ with z | z
              · exact nm m hm a h2 z
              · have hm3 := (bd1 m a h2).1
                obtain ⟨_, o, h5, _⟩ := (rr m _ _ (by omega) (List.getElem?_eq_getElem hm3) (List.getElem?_eq_getElem (by rw [← l1]; exact hm3))).own a h2
                rw [h5] at z; cases z
          cases e4 : g (env'.set i (some xs[k])) with
          | stk => rw [e4] at q2; exact q2
          | nx e' =>
            rw [e4] at q2
            intro σ4 G4 H4 Fs4 s4 S4 p4
            obtain ⟨a1, a2, a3, a4, a5⟩ := hidden s4
            exact ⟨e', G4, Fs4, a1, a2, S4, a3, a4, q2.step a5 p4⟩
          | ct e' =>
            rw [e4] at q2
            intro σ4 G4 H4 Fs4 s4 S4 p4
            obtain ⟨a1, a2, a3, a4, a5⟩ := hidden s4
            exact ⟨e', G4, Fs4, a1, a2, S4, a3, a4, q2.step a5 p4⟩
          | bk e' =>
            rw [e4] at q2
            intro σ4 G4 H4 Fs4 s4 S4 p4
            exact q2 σ4 G4 H4 Fs4 (s4.wide (fun _ h => .inr h) fun a h => .inr h) S4 p4
          | rt d' e' =>
            rw [e4] at q2
            intro v4 σ4 G4 H4 F4 Fs4 s4 r4 S4 d4 p4
            exact q2 v4 σ4 G4 H4 F4 Fs4 (s4.wide (fun _ h => .inr h) fun a h => .inr h) r4 S4 d4 p4
          | exc c e' =>
            rw [e4] at q2
            intro σ4 G4 H4 Fs4 s4 S4 p4
            exact q2 σ4 G4 H4 Fs4 (s4.wide (fun _ h => .inr h) fun a h => .inr h) S4 p4
        · rintro σ' H' ⟨env', G', Fs', gp, hp', S', dj', rr, q'⟩
          rw [List.drop_length] at q'
          exact q' σ' G' H' Fs' (Step.refl' S'.le S'.tb fun a h => .inr h) S' (Pr.refl _ _)
    | _ => exact q.elim
end
end
end FD


set_option Elab.async false
set_option linter.all false
set_option maxRecDepth 100000
namespace FD
noncomputable section
open PySem PySem.Spec L2
section
variable {X : Cx} {W : Wd} {Wx : WX} {pr : List Nat} {G G' H H' : Hp} {env env' : En} {σ σ' : St} {Fs Fs' : Nat → Fp} {F F' : Fp}
def eMove (i : Nat) : En → RE := fun env => match gt env i with
  | some d => .ok (d, env.set i none)
  | none => .stk
def eFrzV (i : Nat) : En → RE := fun env => match gt env i with
  | some d => .ok (.sh d.frz, env.set i (some (.sh d.frz)))
  | none => .stk
end
end
end FD


set_option Elab.async false
set_option linter.all false
set_option maxRecDepth 100000
namespace FD
noncomputable section
open PySem PySem.Spec L2
section
variable {X : Cx} {W : Wd} {Wx : WX} {pr : List Nat}
def bAsSh (f : En → RP) : En → RP := fun env => (f env).bind fun x => ofO (asSh x)
def oNeg (x : O) : Option O := (asI x).bind fun i => some (.sh (.int (-i)))
theorem SV_plus {f g : En → RP} {a b : Expr} {pos : Pos} (ha : SP X W Wx f a) (hb : SP X W Wx g b) : SV X W Wx (b2 oPlus f g) (.BinOp a .Add b pos) := SV_op (v_plus (W := W)).1 (v_plus (X := X)).2 ha hb
theorem SE_plus {f g : En → RE} {a b : Expr} {pos : Pos} (ha : SE X W Wx f a) (hb : SE X W Wx g b) : SE X W Wx (eOp2 oPlus f g) (.BinOp a .Add b pos) := SE_op (v_plus (W := W)).1 (v_plus (X := X)).2 ha hb

theorem SV_sub {f g : En → RP} {a b : Expr} {pos : Pos} (ha : SP X W Wx f a) (hb : SP X W Wx g b) : SV X W Wx (b2 oSub f g) (.BinOp a .Sub b pos) := SV_op (v_sub (W := W)).1 (v_sub (X := X)).2 ha hb
theorem SV_star {f g : En → RP} {a b : Expr} {pos : Pos} (ha : SP X W Wx f a) (hb : SP X W Wx g b) : SV X W Wx (b2 oStar f g) (.BinOp a .Mult b pos) := SV_op (v_star (W := W)).1 (v_star (X := X)).2 ha hb
theorem SV_div {f g : En → RP} {a b : Expr} {pos : Pos} (ha : SP X W Wx f a) (hb : SP X W Wx g b) : SV X W Wx (b2 oDiv f g) (.BinOp a .FloorDiv b pos) := SV_op (v_div (W := W)).1 (v_div (X := X)).2 ha hb
theorem SV_mod {f g : En → RP} {a b : Expr} {pos : Pos} (ha : SP X W Wx f a) (hb : SP X W Wx g b) : SV X W Wx (b2 oMod f g) (.BinOp a .Mod b pos) := SV_op (v_mod (W := W)).1 (v_mod (X := X)).2 ha hb
theorem SV_pow {f g : En → RP} {a b : Expr} {pos : Pos} (ha : SP X W Wx f a) (hb : SP X W Wx g b) : SV X W Wx (b2 oPow f g) (.BinOp a .Pow b pos) := SV_op (v_pow (W := W)).1 (v_pow (X := X)).2 ha hb
theorem ST_eq {f g : En → RP} {a b : Expr} {pos : Pos} (hu : X.A.units + 65 < cLine) (ha : SP X W Wx f a) (hb : SP X W Wx g b)  : ST X W Wx (bT (b2 oEq f g)) (.Compare a [.Eq] [b] pos) := ST_cmp (v_eq (W := W) (X := X) (by omega)).1 (v_eq (W := W) (X := X) (by omega)).2 ha hb (nomark b)
theorem SV_ne {f g : En → RP} {a b : Expr} {pos : Pos} (hu : X.A.units + 65 < cLine) (ha : SP X W Wx f a) (hb : SP X W Wx g b)  : SV X W Wx (b2 oNe f g) (.Compare a [.NotEq] [b] pos) := SV_cmp (v_ne (W := W) (X := X) (by omega)).1 (v_ne (W := W) (X := X) (by omega)).2 ha hb (nomark b)
theorem ST_ne {f g : En → RP} {a b : Expr} {pos : Pos} (hu : X.A.units + 65 < cLine) (ha : SP X W Wx f a) (hb : SP X W Wx g b)  : ST X W Wx (bT (b2 oNe f g)) (.Compare a [.NotEq] [b] pos) := ST_cmp (v_ne (W := W) (X := X) (by omega)).1 (v_ne (W := W) (X := X) (by omega)).2 ha hb (nomark b)
theorem ST_lt {f g : En → RP} {a b : Expr} {pos : Pos} (ha : SP X W Wx f a) (hb : SP X W Wx g b)  : ST X W Wx (bT (b2 oLt f g)) (.Compare a [.Lt] [b] pos) := ST_cmp (v_lt (W := W) (X := X) ).1 (v_lt (W := W) (X := X) ).2 ha hb (nomark b)
theorem ST_gt {f g : En → RP} {a b : Expr} {pos : Pos} (ha : SP X W Wx f a) (hb : SP X W Wx g b)  : ST X W Wx (bT (b2 oGt f g)) (.Compare a [.Gt] [b] pos) := ST_cmp (v_gt (W := W) (X := X) ).1 (v_gt (W := W) (X := X) ).2 ha hb (nomark b)
theorem SV_ge {f g : En → RP} {a b : Expr} {pos : Pos} (ha : SP X W Wx f a) (hb : SP X W Wx g b)  : SV X W Wx (b2 oGe f g) (.Compare a [.GtE] [b] pos) := SV_cmp (v_ge (W := W) (X := X) ).1 (v_ge (W := W) (X := X) ).2 ha hb (nomark b)
theorem ST_in {f g : En → RP} {a b : Expr} {pos : Pos} (hu : X.A.units + 65 < cLine) (ha : SP X W Wx f a) (hb : SP X W Wx g b) (hm : behindInMarks .In b = false := by rfl) : ST X W Wx (bT (b2 oIn f g)) (.Compare a [.In] [b] pos) := ST_cmp (v_in (W := W) (X := X) hu).1 (v_in (W := W) (X := X) hu).2 ha hb hm
theorem ST_notIn {f g : En → RP} {a b : Expr} {pos : Pos} (hu : X.A.units + 65 < cLine) (ha : SP X W Wx f a) (hb : SP X W Wx g b) (hm : behindInMarks .NotIn b = false := by rfl) : ST X W Wx (bT (b2 oNotIn f g)) (.Compare a [.NotIn] [b] pos) := ST_cmp (v_notIn (W := W) (X := X) hu).1 (v_notIn (W := W) (X := X) hu).2 ha hb hm
theorem ST_lt_lt {f g h : En → RP} {a b c : Expr} {pos : Pos} (ha : SP X W Wx f a) (hb : SP X W Wx g b) (hc : SP X W Wx h c) (hm : lastMarks [.Lt, .Lt] [b, c] = false := by with_unfolding_all rfl) : ST X W Wx (bT (bChain oLt oLt f g h)) (.Compare a [.Lt, .Lt] [b, c] pos) := ST_chain (v_lt (W := W)).1 (v_lt (X := X)).2 (v_lt (W := W)).1 (v_lt (X := X)).2 ha hb hc hm

theorem SV_le_lt {f g h : En → RP} {a b c : Expr} {pos : Pos} (ha : SP X W Wx f a) (hb : SP X W Wx g b) (hc : SP X W Wx h c) (hm : lastMarks [.LtE, .Lt] [b, c] = false := by with_unfolding_all rfl) : SV X W Wx (bChain oLe oLt f g h) (.Compare a [.LtE, .Lt] [b, c] pos) := SV_chain (v_le (W := W)).1 (v_le (X := X)).2 (v_lt (W := W)).1 (v_lt (X := X)).2 ha hb hc hm
theorem SV_at {f g : En → RP} {a b : Expr} {pos : Pos} (hu : X.A.units + 65 < cLine) (ha : SP X W Wx f a) (hb : SP X W Wx g b) (hs : PlainIx b := by intro _ _; rfl) : SV X W Wx (b2 oAt f g) (.Subscript a b pos) := SV_ix (v_at (W := W) (by omega)).1 (v_at (X := X) (by omega)).2 ha hb hs
theorem SE_atv (i : Nat) {g : En → RE} {x : Str} {pos' : Pos} {b : Expr} {pos : Pos} (hu : X.A.units + 65 < cLine) (hb : SE X W Wx g b) (hs : PlainIx b := by intro _ _; rfl) (hN : X.N[i]? = some x := by rfl) (hv : Vis X.env.scope x := by first | exact Or.inl rfl | exact Or.inr (Or.inl rfl) | exact Or.inr (Or.inr rfl)) (hd : (x == ("__debug__" : Str)) = false := by decide)
    (hcd : (x == ("__classdict__" : Str)) = false := by decide) : SE X W Wx (eOp2v oAt i g) (.Subscript (.Name x pos') b pos) := SE_ixv i (v_at (W := W) (by omega)).1 (v_at (X := X) (by omega)).2 hb hs hN hv hd hcd
theorem SV_len {f : En → R Unit (List O)} {p pos : Pos} {e : Expr} {es : List Expr} (hg : Gl X "len") (hm : X.mg "len" = none) (ha : SA X W Wx f (e :: es)) (he : starEach (e :: es) X.env = (false, eval e X.env) :: starEach es X.env := by rfl) (hpl : (backTo pos (starEach es X.env)).any (·.1) = false := by rfl) :
    SV X W Wx (bN oLen f) (.Call (.Name "len" p) (e :: es) [] pos) := SV_callB (v_len (W := W) (X := X)).1 (v_len (W := W) (X := X)).2 hg hm (by decide +kernel) ha (by decide) (by decide) he hpl

theorem SV_abs {f : En → R Unit (List O)} {p pos : Pos} {e : Expr} {es : List Expr} (hg : Gl X "abs") (hm : X.mg "abs" = none) (ha : SA X W Wx f (e :: es)) (he : starEach (e :: es) X.env = (false, eval e X.env) :: starEach es X.env := by rfl) (hpl : (backTo pos (starEach es X.env)).any (·.1) = false := by rfl) :
    SV X W Wx (bN oAbs f) (.Call (.Name "abs" p) (e :: es) [] pos) := SV_callB (v_abs (W := W) (X := X)).1 (v_abs (W := W) (X := X)).2 hg hm (by decide +kernel) ha (by decide) (by decide) he hpl

theorem SV_toInt {f : En → R Unit (List O)} {p pos : Pos} {e : Expr} {es : List Expr} (hg : Gl X "int") (hm : X.mg "int" = none) (ha : SA X W Wx f (e :: es)) (he : starEach (e :: es) X.env = (false, eval e X.env) :: starEach es X.env := by rfl) (hpl : (backTo pos (starEach es X.env)).any (·.1) = false := by rfl) :
    SV X W Wx (bN oInt f) (.Call (.Name "int" p) (e :: es) [] pos) := SV_callTy (v_int1 (W := W) (X := X)).1 (v_int1 (W := W) (X := X)).2 hg hm (by decide +kernel) ha (by decide) (by decide) he hpl

theorem SV_tuple {f : En → R Unit (List O)} {p pos : Pos} {e : Expr} {es : List Expr} (hg : Gl X "tuple") (hm : X.mg "tuple" = none) (ha : SA X W Wx f (e :: es)) (he : starEach (e :: es) X.env = (false, eval e X.env) :: starEach es X.env := by rfl) (hpl : (backTo pos (starEach es X.env)).any (·.1) = false := by rfl) :
    SV X W Wx (bN oTuple f) (.Call (.Name "tuple" p) (e :: es) [] pos) := SV_callTy (v_tuple (W := W) (X := X)).1 (v_tuple (W := W) (X := X)).2 hg hm (by decide +kernel) ha (by decide) (by decide) he hpl

theorem SV_tupleM {f : En → R Unit (List O)} {p pos : Pos} {e : Expr} {es : List Expr} (hg : Gl X "tuple") (hm : X.mg "tuple" = none) (ha : SA X W Wx f (e :: es)) (he : starEach (e :: es) X.env = (false, eval e X.env) :: starEach es X.env := by rfl) (hpl : (backTo pos (starEach es X.env)).any (·.1) = false := by rfl) :
    SV X W Wx (bN oTupleM f) (.Call (.Name "tuple" p) (e :: es) [] pos) := SV_callTy (v_tupleM (W := W) (X := X)).1 (v_tupleM (W := W) (X := X)).2 hg hm (by decide +kernel) ha (by decide) (by decide) he hpl

theorem SV_dict {f : En → R Unit (List O)} {p pos : Pos} {e : Expr} {es : List Expr} (hc : X.calm = true) (hg : Gl X "dict") (hm : X.mg "dict" = none) (ha : SA X W Wx f (e :: es)) (he : starEach (e :: es) X.env = (false, eval e X.env) :: starEach es X.env := by rfl) (hpl : (backTo pos (starEach es X.env)).any (·.1) = false := by rfl) :
    SV X W Wx (bN oDict f) (.Call (.Name "dict" p) (e :: es) [] pos) := SV_callTy (v_dict (W := W) (X := X) hc).1 (v_dict (W := W) (X := X) hc).2 hg hm (by decide +kernel) ha (by decide) (by decide) he hpl

end
end
end FD


set_option Elab.async false
set_option linter.all false
set_option maxRecDepth 100000
namespace FD
noncomputable section
open PySem PySem.Spec L2
theorem fn_stk {P : Program} {w : World} {K : PySem.W.Frag} {mg : Str → Option Value} {base : Heap} {CX : CXT} {k : Nat} {f : Addr} {fd : FuncData} {ps : List Str} {W : Wd} {n : Nat} {pr : List Nat} (T : List O → RC) (h : ∀ ds, T ds = .stk) : FnOk P w K mg base CX k f fd ps (spC W n pr T) where
  len := fun vs H Q E q => by
    obtain ⟨G, ds, FA, _, _, _, _, q⟩ := q
    rw [h] at q; exact q.elim
  run := fun _ _ _ _ _ _ _ _ _ _ _ _ _ q => by
    obtain ⟨G, ds, FA, _, _, _, _, q⟩ := q
    rw [h] at q; exact q.elim
theorem u1 {a : Nat} (h : a + 65 < cLine) : a + 1 < cLine := by omega
theorem not_outs {vs : List Nat} {n i : Nat} (h : i ∈ vs) : i ∉ outs vs n := fun q => by
  unfold outs at q
  rw [List.mem_filter] at q
  simp [h] at q
def KL (K : PySem.W.Frag) (p : Addr) (vs : List V) : Prop := ∃ (o : Obj) (its : Array Value) (n : Nat), K.lookup p = some o ∧ o.cls = .type "list" ∧ o.dict = none ∧ o.data = .seq its n ∧ its.size ≤ sizeLine ∧ Vals vs its.toList
section
variable {X : Cx} {W : Wd} {Wx : WX} {G H : Hp}
def oSlS (x : O) (lo hi : Option Int) : Option O := match x with
  | .sh (.frl xs) => some (.lst ((cutG xs lo hi).map .sh))
  | _ => none
def bSlS (f : En → RP) (l h : En → R Unit (Option Int)) : En → RP := fun env => (f env).bind fun x => (l env).bind fun a => (h env).bind fun b => ofO (oSlS x a b)
theorem SV_sliceS {f : En → RP} {l h : En → R Unit (Option Int)} {e : Expr} {lo hi : Option Expr} {pos p2 : Pos} (hk : ∀ p vs, W.C.kl p vs → KL X.K p vs) (he : SP X W Wx f e) (hl : SO X W Wx l lo) (hh : SO X W Wx h hi) : SV X W Wx (bSlS f l h) (.Subscript e (.Slice lo hi none p2) pos) := fun env =>
  (pe_slice (r := rSlL X.K) sl_list (he env) (hl env) (hh env)).imp fun σ H Q => by
    rintro ⟨G, Fs, S, q⟩
    refine ⟨G, Fs, S, ?_⟩
    unfold bSlS at q
    cases e1 : f env with
    | stk => rw [e1] at q; exact q
    | exc c u => rw [e1] at q; exact q
    | ok x =>
      rw [e1, bind_ok] at q
      intro v G1 H1 F1 s1 r1
      refine ⟨G1, Fs, S.step0 s1, ?_⟩
      cases e2 : l env with
      | stk => rw [e2] at q; exact q
      | exc c u => rw [e2] at q; exact fun G' H' s => q G' H' (s1.trans s)
      | ok a =>
        rw [e2, bind_ok] at q
        intro G2 H2 s2
        refine ⟨G2, Fs, (S.step0 s1).step0 s2, ?_⟩
        cases e3 : h env with
        | stk => rw [e3] at q; exact q
        | exc c u => rw [e3] at q; exact fun G' H' s => q G' H' ((s1.trans s2).trans s)
        | ok b =>
          rw [e3, bind_ok] at q
          intro G3 H3 s3
          have r3 := (r1.step0 s2).step0 s3
          cases x with
          | sh d =>
            cases d with
            | frl xs =>
              have r' := rp_sh r3
              cases r' with
              | @frl _ p vs h1 h2 h3 =>
                refine ⟨p, vs, rfl, h1.imp (fun h => Rd.sub s3.le h) (hk p vs), fun p' hp' => ?_⟩
                have hs : RpDs W G3 xs vs := paired_of h2 h3
                exact q _ _ _ _ (((s1.trans s2).trans s3).trans (step_own s3.le s3.b hp')) (RpDs.own (none_of_le s3.le hp') upd_same (RpDs.cut hs a b))
            | _ => exact q.elim
          | _ => exact q.elim
end
end
end FD


set_option Elab.async false
set_option linter.all false
set_option maxRecDepth 100000
namespace FD
noncomputable section
open PySem PySem.Spec L2
def grd {α : Type} (b : Bool) (x y : α) : α := if b then x else y
@[simp] theorem grd_true {α : Type} (x y : α) : grd true x y = x := id rfl
@[simp] theorem grd_false {α : Type} (x y : α) : grd false x y = y := id rfl

@[simp] theorem pE_q  (f : En → RP) {env} : pE f env = (match f env with
      | .ok d => .ok (d, env)
      | .exc c _ => .exc c env
      | .stk => .stk) := id rfl
@[simp] theorem bFrz_q  (f : En → RP) {env} : bFrz f env = ((f env).bind fun d => .ok (.sh d.frz)) := id rfl
@[simp] theorem eFrz_q  (f : En → RE) {env} : eFrz f env = ((f env).bind fun p => .ok (.sh p.1.frz, p.2)) := id rfl
@[simp] theorem bVar_q  (i : Nat) {env} : bVar i env = (ofO (gt env i)) := id rfl
@[simp] theorem bSh_q  (i : Nat) {env} : bSh i env = (ofO ((gt env i).bind asSh)) := id rfl
@[simp] theorem bC_q  (d : D) {x0} : bC d x0 = (.ok (.sh d)) := id rfl
@[simp] theorem b2_q  (go : O → O → Option O) (f g : En → RP) {env} : b2 go f g env = ((f env).bind fun x => (g env).bind fun y => ofO (go x y)) := id rfl
@[simp] theorem b1_q  (go : O → Option O) (f : En → RP) {env} : b1 go f env = ((f env).bind fun x => ofO (go x)) := id rfl
@[simp] theorem bN_q  (go : List O → Option O) (f : En → R Unit (List O)) {env} : bN go f env = ((f env).bind fun xs => ofO (go xs)) := id rfl
@[simp] theorem aNil_q  {x0} : aNil  x0 = (.ok []) := id rfl
@[simp] theorem aCons_q  (f : En → RP) (g : En → R Unit (List O)) {env} : aCons f g env = ((f env).bind fun x => (g env).bind fun xs => .ok (x :: xs)) := id rfl
@[simp] theorem bT_q  (f : En → RP) {env} : bT f env = ((f env).bind fun d => ofO (asB d)) := id rfl
@[simp] theorem bNot_q  (f : En → RB) {env} : bNot f env = ((f env).bind fun b => .ok (!b)) := id rfl
@[simp] theorem bAnd_q  (f g : En → RB) {env} : bAnd f g env = ((f env).bind fun b => grd (b) (g env) (.ok false)) := id rfl
@[simp] theorem bOr_q  (f g : En → RB) {env} : bOr f g env = ((f env).bind fun b => grd (b) (.ok true) (g env)) := id rfl
@[simp] theorem bOfT_q  (f : En → RB) {env} : bOfT f env = ((f env).bind fun b => .ok (.sh (.bl b))) := id rfl
@[simp] theorem bAndV_q  (f g : En → RP) {env} : bAndV f g env = ((f env).bind fun x => (ofO (asB x) : RB).bind fun b => grd (b) (g env) (.ok (.sh (.bl false)))) := id rfl
@[simp] theorem bOrV_q  (f g : En → RP) {env} : bOrV f g env = ((f env).bind fun x => (ofO (asB x) : RB).bind fun b => grd (b) (.ok (.sh (.bl true))) (g env)) := id rfl
@[simp] theorem bIf_q  (c : En → RB) (f g : En → RP) {env} : bIf c f g env = ((c env).bind fun b => grd (b) (f env) (g env)) := id rfl
@[simp] theorem uT_q  (f : En → RB) {env} : uT f env = (match f env with
      | .ok b => .ok (b, env)
      | .exc c _ => .exc c env
      | .stk => .stk) := id rfl
@[simp] theorem sNil_q  {env} : sNil  env = (.nx env) := id rfl
@[simp] theorem sCons_q  (g h : En → RS) {env} : sCons g h env = (match g env with
      | .nx e => h e
      | r => r) := id rfl
@[simp] theorem sSet_q  (i : Nat) (f : En → RE) {env} : sSet i f env = (match f env with
      | .ok (d, e) => .nx (e.set i (some d))
      | .exc c e => .exc c e
      | .stk => .stk) := id rfl
@[simp] theorem sRet_q  (f : En → RE) {env} : sRet f env = (match f env with
      | .ok (d, e) => .rt d e
      | .exc c e => .exc c e
      | .stk => .stk) := id rfl
@[simp] theorem sRetN_q  {env} : sRetN  env = (.rt (.sh .non) env) := id rfl
@[simp] theorem sExpr_q  (f : En → RE) {env} : sExpr f env = (match f env with
      | .ok (_, e) => .nx e
      | .exc c e => .exc c e
      | .stk => .stk) := id rfl
@[simp] theorem sBrk_q  {env} : sBrk  env = (.bk env) := id rfl
@[simp] theorem sCnt_q  {env} : sCnt  env = (.ct env) := id rfl
@[simp] theorem sIf_q  (c : En → R En (Bool × En)) (g h : En → RS) {env} : sIf c g h env = (match c env with
      | .ok (true, e) => g e
      | .ok (false, e) => h e
      | .exc c e => .exc c e
      | .stk => .stk) := id rfl
@[simp] theorem sFor_q  (it : En → R En (List D × En)) (tgt : D → En → Option En) (body : En → RS) {env} : sFor it tgt body env = (match it env with
      | .ok (ds, e) => forL tgt body ds e
      | .exc c e => .exc c e
      | .stk => .stk) := id rfl
@[simp] theorem gN_q  (i : Nat) {d} {env} : gN i d env = (some (env.set i (some (.sh d)))) := id rfl
@[simp] theorem gT_q  (u : List D → En → Option En) {d} {env} : gT u d env = (match d with
      | .tup _ xs => u xs env
      | _ => none) := id rfl
@[simp] theorem gsNil_q  {ds} {env} : gsNil  ds env = (grd (ds.isEmpty) (some env) (none)) := id rfl
@[simp] theorem gsCons_q  (t : D → En → Option En) (u : List D → En → Option En) {ds} {env} : gsCons t u ds env = (match ds with
      | [] => none
      | d :: ds => (t d env).bind fun e => u ds e) := id rfl
@[simp] theorem iJ_q  (f : En → R Unit (List D)) {env} : iJ f env = (match f env with
      | .ok ds => .ok (ds, env)
      | .exc c _ => .exc c env
      | .stk => .stk) := id rfl
@[simp] theorem jSeq_q  (f : En → RP) {env} : jSeq f env = ((f env).bind fun x => ofO (itD x)) := id rfl
@[simp] theorem jEnum_q  (f : En → RP) {env} : jEnum f env = ((f env).bind fun x => ofO ((itD x).map enumD)) := id rfl
@[simp] theorem jRange1_q  (f : En → RP) {env} : jRange1 f env = ((f env).bind fun x => ofO ((asI x).bind fun j => grd (okI j) (some (rngD 0 j)) (none))) := id rfl
@[simp] theorem jRange2_q  (f g : En → RP) {env} : jRange2 f g env = ((f env).bind fun x => (g env).bind fun y => ofO ((asI x).bind fun i => (asI y).bind fun j => grd (okI i && okI j) (some (rngD i j)) (none))) := id rfl
@[simp] theorem bYes_q  {x0} : bYes  x0 = (.ok true) := id rfl
@[simp] theorem uYes_q  {env} : uYes  env = (.ok (true, env)) := id rfl
@[simp] theorem bLc_q  (vs : List Nat) (it : En → R Unit (List D)) (tgt : D → En → Option En) (tt : En → RB) (elt : En → RP) {env} : bLc vs it tgt tt elt env = ((it env).bind fun ds => grd (szOk ds.length) (lcP tgt tt elt (wipeE env vs) ds []) (.stk)) := id rfl
@[simp] theorem eLc_q  (vs : List Nat) (it : En → R En (List D × En)) (tgt : D → En → Option En) (tt : En → R En (Bool × En)) (elt : En → RE) {env} : eLc vs it tgt tt elt env = ((it env).bind fun p =>
      grd (szOk p.1.length) (match lcE vs tgt tt elt p.1 [] (wipeE p.2 vs) with
        | .ok (acc, e) => .ok (.lst acc, restE p.2 e vs)
        | _ => .stk) (.stk)) := id rfl
@[simp] theorem nNil_q  {env} : nNil  env = (.ok ([], env)) := id rfl
@[simp] theorem nCons_q  (f : En → RE) (g : En → R En (List O × En)) {env} : nCons f g env = ((f env).bind fun p => (g p.2).bind fun q => .ok (p.1 :: q.1, q.2)) := id rfl
@[simp] theorem nLend_q  (i : Nat) (g : En → R En (List O × En)) {env} : nLend i g env = (match gt env i with
      | some d => (g (env.set i none)).bind fun q => .ok (d :: q.1, q.2)
      | none => .stk) := id rfl
@[simp] theorem eCall_q  (T : List O → RC) (bk : List (Nat × Nat)) (h : En → R En (List O × En)) {env} : eCall T bk h env = ((h env).bind fun p => match T p.1 with
      | .ok d fin => match putB bk fin p.2 with
        | some e => .ok (d, e)
        | none => .stk
      | .exc c fin => match putB bk fin p.2 with
        | some e => .exc c e
        | none => .stk
      | .stk => .stk) := id rfl
@[simp] theorem bCall_q  (T : List O → RC) (f : En → R Unit (List O)) {env} : bCall T f env = ((f env).bind (callP T)) := id rfl
@[simp] theorem bMeth_q  (c : Nat) (m : Str) (T : List O → RC) (f : En → RP) (g : En → R Unit (List O)) {env} : bMeth c m T f g env = ((f env).bind fun x => grd (insOf c m x) ((g env).bind fun ds => callP T (x :: ds)) (.stk)) := id rfl
@[simp] theorem bFldC_q  (cs : List Nat) (f : Str) (g : En → RP) {env} : bFldC cs f g env = ((g env).bind fun x => match insC x with
      | some c => grd (cs.contains c) (ofO (fldO f x)) (.stk)
      | none => .stk) := id rfl
@[simp] theorem bTup_q  (f : En → R Unit (List O)) {env} : bTup f env = ((f env).bind fun xs => ofO ((allSh xs).bind fun ds => grd (szOk ds.length) (some (.sh (.tup false ds))) (none))) := id rfl
@[simp] theorem bLst_q  (f : En → R Unit (List O)) {env} : bLst f env = ((f env).bind fun xs => ofO ((allSh xs).bind fun ds => grd (szOk ds.length) (some (.lst (ds.map .sh))) (none))) := id rfl
@[simp] theorem bSl_q  (f : En → RP) (l h : En → R Unit (Option Int)) {env} : bSl f l h env = ((f env).bind fun x => (l env).bind fun a => (h env).bind fun b => ofO (oSl x a b)) := id rfl
@[simp] theorem pNo_q  {x0} : pNo  x0 = (.ok none) := id rfl
@[simp] theorem pI_q  (f : En → RP) {env} : pI f env = ((f env).bind fun x => ofO ((asI x).map some)) := id rfl
@[simp] theorem eOp2_q  (go : O → O → Option O) (f g : En → RE) {env} : eOp2 go f g env = ((f env).bind fun p => (g p.2).bind fun q => match go p.1 q.1 with
      | some z => .ok (z, q.2)
      | none => .stk) := id rfl
@[simp] theorem eOp2v_q  (go : O → O → Option O) (i : Nat) (g : En → RE) {env} : eOp2v go i g env = (match gt env i with
      | none => .stk
      | some _ => (g env).bind fun q => match (gt q.2 i).bind fun x => go x q.1 with
        | some z => .ok (z, q.2)
        | none => .stk) := id rfl
@[simp] theorem e1_q  (go : List O → Option O) (f : En → RE) {env} : e1 go f env = ((f env).bind fun p => match go [p.1] with
      | some z => .ok (z, p.2)
      | none => .stk) := id rfl
@[simp] theorem uV_q  (f : En → RE) {env} : uV f env = ((f env).bind fun p => match asB p.1 with
      | some b => .ok (b, p.2)
      | none => .stk) := id rfl
@[simp] theorem eTup_q  (f : En → R En (List O × En)) {env} : eTup f env = ((f env).bind fun p => grd (szOk p.1.length) (.ok (.sh (.tup false (p.1.map O.frz)), p.2)) (.stk)) := id rfl
@[simp] theorem eLst_q  (f : En → R En (List O × En)) {env} : eLst f env = ((f env).bind fun p => grd (szOk p.1.length) (.ok (.lst p.1, p.2)) (.stk)) := id rfl
@[simp] theorem iE_q  (f : En → RE) {env} : iE f env = ((f env).bind fun p => match itD p.1 with
      | some ds => .ok (ds, p.2)
      | none => .stk) := id rfl
@[simp] theorem iRange1_q  (f : En → RE) {env} : iRange1 f env = ((f env).bind fun p => match asI p.1 with
      | some j => grd (okI j) (.ok (rngD 0 j, p.2)) (.stk)
      | none => .stk) := id rfl
@[simp] theorem eApp_q  (i : Nat) (f : En → RE) {env} : eApp i f env = (match lstG env i with
      | none => .stk
      | some _ => (f env).bind fun p => match lstG p.2 i with
        | some xs => grd (szOk (xs.length + 1)) (.ok (.sh .non, p.2.set i (some (.lst (xs ++ [p.1]))))) (.stk)
        | none => .stk) := id rfl
@[simp] theorem ePop_q  (i : Nat) (f : En → RP) {env} : ePop i f env = (match lstG env i with
      | none => .stk
      | some xs => match f env with
        | .ok y => match (asI y).bind fun j => grd (okI j) (seqIndex? j xs.length) (none) with
          | some k => match xs[k]? with
            | some d => .ok (d, env.set i (some (.lst (xs.eraseIdx k))))
            | none => .stk
          | none => .stk
        | .exc c _ => .exc c env
        | .stk => .stk) := id rfl
@[simp] theorem ePop0_q  (i : Nat) {env} : ePop0 i env = (match lstG env i with
      | none => .stk
      | some xs => match xs[xs.length - 1]? with
        | some d => .ok (d, env.set i (some (.lst xs.dropLast)))
        | none => .stk) := id rfl
@[simp] theorem sSetIx_q  (i : Nat) (f : En → RE) (g : En → RP) {env} : sSetIx i f g env = (match f env with
      | .ok (d, e) => match lstG e i with
        | some xs => match g e with
          | .ok y => match (asI y).bind fun j => ixN xs.length j with
            | some k => .nx (e.set i (some (.lst (xs.set k d))))
            | none => .stk
          | .exc c _ => .exc c e
          | .stk => .stk
        | none => .stk
      | .exc c e => .exc c e
      | .stk => .stk) := id rfl
@[simp] theorem eRem_q  (i : Nat) (f : En → RP) {env} : eRem i f env = (match (lstG env i).bind intsO with
      | none => .stk
      | some ns => match f env with
        | .ok y => match asI y with
          | some k => grd (ns.contains k) (.ok (.sh .non, env.set i (some (.lst ((ns.erase k).map fun j => .sh (.int j)))))) (.stk)
          | none => .stk
        | .exc c _ => .exc c env
        | .stk => .stk) := id rfl
@[simp] theorem sPar_q  (i j : Nat) (f : En → R En (List O × En)) {env} : sPar i j f env = (match f env with
      | .ok ([x, y], e) => .nx ((e.set i (some x)).set j (some y))
      | .ok _ => .stk
      | .exc c e => .exc c e
      | .stk => .stk) := id rfl
@[simp] theorem bDGet_q  (f g : En → RP) {env} : bDGet f g env = ((f env).bind fun x => grd (isDct x) ((g env).bind fun y => match dGet x y with
      | some (some z) => ofO (asSh z)
      | some none => .ok (.sh .non)
      | none => .stk) (.stk)) := id rfl
@[simp] theorem bIdx_q  (f g : En → RP) {env} : bIdx f g env = ((f env).bind fun x => match x with
      | .sh (.tup true ds) => (g env).bind fun y => match y with
        | .sh d => grd (pyOkL ds && pyOk d) (ofO ((idxD ds d).map fun j => .sh (.int (j : Nat)))) (.stk)
        | _ => .stk
      | .sh (.lst ds) => (g env).bind fun y => match y with
        | .sh d => grd (pyOkL ds && pyOk d) (ofO ((idxD ds d).map fun j => .sh (.int (j : Nat)))) (.stk)
        | _ => .stk
      | _ => .stk) := id rfl
@[simp] theorem rg1_q  (f : En → RP) {env} : rg1 f env = ((f env).bind fun x => ofO ((asI x).map fun n => (0, n))) := id rfl
@[simp] theorem rg2_q  (f g : En → RP) {env} : rg2 f g env = ((f env).bind fun x => (g env).bind fun y => ofO ((asI x).bind fun i => (asI y).map fun j => (i, j))) := id rfl
@[simp] theorem bLstR_q  (f : En → R Unit (Int × Int)) {env} : bLstR f env = ((f env).bind fun p => grd (okR p.1 p.2) (.ok (.lst ((rngD p.1 p.2).map .sh))) (.stk)) := id rfl
@[simp] theorem bTupR_q  (f : En → R Unit (Int × Int)) {env} : bTupR f env = ((f env).bind fun p => grd (okR p.1 p.2) (.ok (.sh (.tup false (rngD p.1 p.2)))) (.stk)) := id rfl
@[simp] theorem eMake_q  (c : Nat) (T : List O → RC) (h : En → R En (List O × En)) {env} : eMake c T h env = ((h env).bind fun p => match T (.ins c [] :: p.1) with
      | .ok _ [x] => .ok (x, p.2)
      | .exc c' _ => .exc c' p.2
      | _ => .stk) := id rfl
@[simp] theorem sFldS_q  (cs : List Nat) (i : Nat) (f : Str) (g : En → RE) {env} : sFldS cs i f g env = (match g env with
      | .ok (d, e) => match insG e i with
        | some (c, fs) => grd (cs.contains c && decide (fs.length < 1000)) (.nx (e.set i (some (.ins c (putFG f d fs))))) (.stk)
        | none => .stk
      | .exc c e => .exc c e
      | .stk => .stk) := id rfl
@[simp] theorem sAugV_q  (i : Nat) (go : O → O → Option O) (f : En → RE) {env} : sAugV i go f env = (match gt env i with
      | some (.sh d) => match f env with
        | .ok (y, e) => match go (.sh d) y with
          | some z => .nx (e.set i (some z))
          | none => .stk
        | .exc c e => .exc c e
        | .stk => .stk
      | _ => .stk) := id rfl
@[simp] theorem sExt_q  (i : Nat) (f : En → RE) {env} : sExt i f env = (match lstG env i with
      | none => .stk
      | some _ => match f env with
        | .ok (y, e) => match (lstG e i).bind allSh with
          | some ds => match lstO y with
            | some ys => grd (szOk (ds.length + ys.length)) (.nx (e.set i (some (.lst ((ds ++ ys).map .sh))))) (.stk)
            | none => .stk
          | none => .stk
        | .exc c e => .exc c e
        | .stk => .stk) := id rfl
@[simp] theorem bChain_q  (go go' : O → O → Option O) (f g h : En → RP) {env} : bChain go go' f g h env = ((f env).bind fun x => (g env).bind fun y => (ofO ((go x y).bind asB) : RB).bind fun k => grd (k) ((h env).bind fun z => ofO (go' y z)) (.ok (.sh (.bl false)))) := id rfl
@[simp] theorem sAsgG_q  (tgt : D → En → Option En) (f : En → RE) {env} : sAsgG tgt f env = (match f env with
      | .ok (.sh d, e) => match tgt d e with
        | some e' => .nx e'
        | none => .stk
      | .ok _ => .stk
      | .exc c e => .exc c e
      | .stk => .stk) := id rfl
@[simp] theorem eSl_q  (f : En → RE) (l h : En → R Unit (Option Int)) {env} : eSl f l h env = ((f env).bind fun p => match l p.2 with
      | .ok a => match h p.2 with
        | .ok b => match oSl p.1 a b with
          | some z => .ok (z, p.2)
          | none => .stk
        | .exc c _ => .exc c p.2
        | .stk => .stk
      | .exc c _ => .exc c p.2
      | .stk => .stk) := id rfl
@[simp] theorem eSlLo_q  (f : En → RP) (l : En → RE) {env} : eSlLo f l env = (match f env with
      | .ok (.sh d) => (l env).bind fun p => match (asI p.1).bind fun i => oSl (.sh d) (some i) none with
        | some z => .ok (z, p.2)
        | none => .stk
      | .exc c _ => .exc c env
      | _ => .stk) := id rfl
@[simp] theorem sForO_q  (f : En → RE) (i : Nat) (body : En → RS) {env} : sForO f i body env = (match f env with
      | .ok (.lst xs, e) => forO i body xs e
      | .ok _ => .stk
      | .exc c e => .exc c e
      | .stk => .stk) := id rfl
@[simp] theorem eMove_q  (i : Nat) {env} : eMove i env = (match gt env i with
      | some d => .ok (d, env.set i none)
      | none => .stk) := id rfl
@[simp] theorem eFrzV_q  (i : Nat) {env} : eFrzV i env = (match gt env i with
      | some d => .ok (.sh d.frz, env.set i (some (.sh d.frz)))
      | none => .stk) := id rfl
@[simp] theorem bAsSh_q  (f : En → RP) {env} : bAsSh f env = ((f env).bind fun x => ofO (asSh x)) := id rfl
@[simp] theorem bSlS_q  (f : En → RP) (l h : En → R Unit (Option Int)) {env} : bSlS f l h env = ((f env).bind fun x => (l env).bind fun a => (h env).bind fun b => ofO (oSlS x a b)) := id rfl
@[simp] theorem orE_q  (f g : O → O → Option O) {x} {y} : orE f g x y = (match f x y with
      | some z => some z
      | none => g x y) := id rfl

@[simp] theorem gt_zero (x : Option O) (xs : En) : gt (x :: xs) 0 = x := id rfl
@[simp] theorem gt_succ (x : Option O) (xs : En) (n : Nat) : gt (x :: xs) (n + 1) = gt xs n := id rfl
@[simp] theorem asSh_sh (d : D) : asSh (.sh d) = some (.sh d) := id rfl
@[simp] theorem asI_int (i : Int) : asI (.sh (.int i)) = some i := id rfl
@[simp] theorem asB_bl (b : Bool) : asB (.sh (.bl b)) = some b := id rfl
@[simp] theorem itD_sh (d : D) : itD (.sh d) = asSeq d := id rfl
@[simp] theorem asSeq_lst (xs : List D) : asSeq (.lst xs) = some xs := id rfl
@[simp] theorem asSeq_tup (m : Bool) (xs : List D) : asSeq (.tup m xs) = some xs := id rfl
@[simp] theorem fnE_q (m : Nat) (ds : List O) : fnE m ds = ds.map some ++ List.replicate (m - ds.length) none := id rfl
@[simp] theorem finL_nil (e : En) : finL [] e = some [] := id rfl
@[simp] theorem finL_cons (i : Nat) (is : List Nat) (e : En) : finL (i :: is) e = (gt e i).bind fun d => (finL is e).map (d :: ·) := id rfl
@[simp] theorem putB_nil (fin : List O) (e : En) : putB [] fin e = some e := id rfl
@[simp] theorem putB_cons (i j : Nat) (bk : List (Nat × Nat)) (fin : List O) (e : En) : putB ((i, j) :: bk) fin e = match fin[j]? with
  | some d => putB bk fin (e.set i (some d))
  | none => none := id rfl
@[simp] theorem tbl_rt (pr : List Nat) (d : O) (e : En) : tbl pr (.rt d e) = match finL pr e with
  | some fin => .ok d fin
  | none => .stk := id rfl
@[simp] theorem tbl_nx (pr : List Nat) (e : En) : tbl pr (.nx e) = match finL pr e with
  | some fin => .ok (.sh .non) fin
  | none => .stk := id rfl
@[simp] theorem fnT_q (n m : Nat) (pr : List Nat) (g : En → RS) (ds : List O) : fnT n m pr g ds = if ds.length = n then tbl pr (g (fnE m ds)) else .stk := id rfl
@[simp] theorem lstG_q (env : En) (i : Nat) : lstG env i = match gt env i with
  | some (.lst xs) => some xs
  | _ => none := id rfl
@[simp] theorem wipeE_nil (e : En) : wipeE e [] = e := id rfl
@[simp] theorem wipeE_cons (e : En) (v : Nat) (vs : List Nat) : wipeE e (v :: vs) = (wipeE e vs).set v none := id rfl
@[simp] theorem restE_nil (e0 e : En) : restE e0 e [] = e := id rfl
@[simp] theorem restE_cons (e0 e : En) (v : Nat) (vs : List Nat) : restE e0 e (v :: vs) = (restE e0 e vs).set v (shOf (gt e0 v)) := id rfl
@[simp] theorem shOf_sh (d : D) : shOf (some (.sh d)) = some (.sh d) := id rfl
@[simp] theorem shOf_none : shOf none = none := id rfl
@[simp] theorem shOf_lst (xs : List O) : shOf (some (.lst xs)) = none := id rfl
@[simp] theorem forL_nil (tgt : D → En → Option En) (b : En → RS) (env : En) : forL tgt b [] env = .nx env := id rfl
@[simp] theorem allSh_nil : allSh [] = some [] := id rfl
@[simp] theorem allSh_cons (d : D) (xs : List O) : allSh (.sh d :: xs) = (allSh xs).bind fun ds => some (d :: ds) := id rfl
@[simp] theorem lstO_sh (xs : List D) : lstO (.sh (.lst xs)) = some xs := id rfl
@[simp] theorem lstO_lst (xs : List O) : lstO (.lst xs) = allSh xs := id rfl
@[simp] theorem oAdd_int (i j : Int) : oAdd (.sh (.int i)) (.sh (.int j)) = some (.sh (.int (i + j))) := id rfl
@[simp] theorem oSub_int (i j : Int) : oSub (.sh (.int i)) (.sh (.int j)) = some (.sh (.int (i - j))) := id rfl
@[simp] theorem oMul_int (i j : Int) : oMul (.sh (.int i)) (.sh (.int j)) = grd (cMul i j) (some (.sh (.int (i * j)))) none := id rfl
@[simp] theorem oDiv_int (i j : Int) : oDiv (.sh (.int i)) (.sh (.int j)) = grd (okJ j) (some (.sh (.int (i / j)))) none := id rfl
@[simp] theorem oMod_int (i j : Int) : oMod (.sh (.int i)) (.sh (.int j)) = grd (decide (0 < j)) (some (.sh (.int (i % j)))) none := id rfl
@[simp] theorem oLt_int (i j : Int) : oLt (.sh (.int i)) (.sh (.int j)) = some (.sh (.bl (decide (i < j)))) := id rfl
@[simp] theorem oLe_int (i j : Int) : oLe (.sh (.int i)) (.sh (.int j)) = some (.sh (.bl (decide (i ≤ j)))) := id rfl
@[simp] theorem oGt_int (i j : Int) : oGt (.sh (.int i)) (.sh (.int j)) = some (.sh (.bl (decide (j < i)))) := id rfl
@[simp] theorem oGe_int (i j : Int) : oGe (.sh (.int i)) (.sh (.int j)) = some (.sh (.bl (decide (j ≤ i)))) := id rfl
@[simp] theorem oPlus_int (i j : Int) : oPlus (.sh (.int i)) (.sh (.int j)) = some (.sh (.int (i + j))) := id rfl
@[simp] theorem oPlus_tup (m m' : Bool) (xs ys : List D) (h : xs.length + ys.length ≤ 16777216) : oPlus (.sh (.tup m xs)) (.sh (.tup m' ys)) = some (.sh (if xs.isEmpty then .tup m' ys else if ys.isEmpty then .tup m xs else .tup false (xs ++ ys))) := by
  have h : xs.length + ys.length ≤ lim := by rw [lim_eq, sizeLine_eq]; exact h
  simp [oPlus, catT, h, oAdd, oI, asI]
@[simp] theorem oStar_int (i j : Int) (h : cMul i j = true) : oStar (.sh (.int i)) (.sh (.int j)) = some (.sh (.int (i * j))) := by
  unfold oStar orE
  rw [oMul_int, h]; rfl
@[simp] theorem oIs_non : oIs (.sh .non) (.sh .non) = some (.sh (.bl true)) := id rfl
@[simp] theorem oIs_int (i : Int) : oIs (.sh (.int i)) (.sh .non) = some (.sh (.bl false)) := id rfl
@[simp] theorem oIs_tup (m : Bool) (i : List D) : oIs (.sh (.tup m i)) (.sh .non) = some (.sh (.bl false)) := id rfl
@[simp] theorem oIsNot_non : oIsNot (.sh .non) (.sh .non) = some (.sh (.bl false)) := id rfl
@[simp] theorem oIsNot_int (i : Int) : oIsNot (.sh (.int i)) (.sh .non) = some (.sh (.bl true)) := id rfl
@[simp] theorem oIsNot_tup (m : Bool) (i : List D) : oIsNot (.sh (.tup m i)) (.sh .non) = some (.sh (.bl true)) := id rfl
@[simp] theorem oInt_int (i : Int) : oInt [.sh (.int i)] = some (.sh (.int i)) := id rfl
@[simp] theorem oInt_bl (b : Bool) : oInt [.sh (.bl b)] = some (.sh (.int (if b then 1 else 0))) := id rfl
@[simp] theorem oAbs_int (i : Int) : oAbs [.sh (.int i)] = some (.sh (.int (if i < 0 then -i else i))) := id rfl
@[simp] theorem oNeg_int (i : Int) : oNeg (.sh (.int i)) = some (.sh (.int (-i))) := id rfl
@[simp] theorem toPyL_nil : toPyL [] = [] := by rw [toPyL]
@[simp] theorem toPyL_cons (x : D) (xs : List D) : toPyL (x :: xs) = toPy x :: toPyL xs := by rw [toPyL]
@[simp] theorem deq_int (i j : Int) : deq (.int i) (.int j) = decide (i = j) := by unfold deq; rw [toPy, toPy]; unfold PyData.eqv; exact Bool.beq_eq_decide_eq i j
theorem pyOk_int (i : Int) : pyOk (.int i) = true := rfl
@[simp] theorem oEq_int (i j : Int) : oEq (.sh (.int i)) (.sh (.int j)) = some (.sh (.bl (decide (i = j)))) := by
  unfold oEq oEqW
  simp only [frz_sh, pyOk_int, deq_int]; rfl
@[simp] theorem oNe_int (i j : Int) : oNe (.sh (.int i)) (.sh (.int j)) = some (.sh (.bl (!decide (i = j)))) := by
  unfold oNe oEqW
  simp only [frz_sh, pyOk_int, deq_int]; rfl
end
end FD


set_option Elab.async false
set_option linter.all false
set_option maxRecDepth 100000
namespace FD
noncomputable section
open PySem PySem.Spec L2
def okD : Nat → D → Bool
  | _, .non => true
  | _, .bl _ => true
  | _, .int _ => true
  | _, .str s => PyData.canLay0 (.str s)
  | k + 1, .tup _ xs => xs.all (okD k)
  | k + 1, .lst xs => xs.all (okD k)
  | _, _ => false
theorem okD_list (k : Nat) (ih : ∀ d, okD k d = true → plainD d = true ∧ PyData.canLay0 (toPy d) = true ∧ PyData.depth (toPy d) ≤ k) : ∀ xs : List D, xs.all (okD k) = true → plainDL xs = true ∧ PyData.canLayAll0 (toPyL xs) = true ∧ PyData.depthAll (toPyL xs) ≤ k
  | [], _ => by simp [plainDL, PyData.canLayAll0, PyData.depthAll]
  | x :: xs, h => by
    rw [List.all_cons, Bool.and_eq_true] at h
    obtain ⟨h1, h2, h3⟩ := ih x h.1
    obtain ⟨h4, h5, h6⟩ := okD_list k ih xs h.2
    simp only [plainDL, toPyL_cons, PyData.canLayAll0, PyData.depthAll, h1, h2, h4, h5]
    exact ⟨rfl, rfl, by omega⟩
theorem okD_ok : ∀ (k : Nat) (d : D), okD k d = true → plainD d = true ∧ PyData.canLay0 (toPy d) = true ∧ PyData.depth (toPy d) ≤ k
  | k, .non, _ => by simp [plainD, toPy, PyData.canLay0, PyData.depth]
  | k, .bl _, _ => by simp [plainD, toPy, PyData.canLay0, PyData.depth]
  | k, .int _, _ => by simp [plainD, toPy, PyData.canLay0, PyData.depth]
  | k, .str s, h => by
    have h : PyData.canLay0 (.str s) = true := by simpa [okD] using h
    simp [plainD, toPy, h, PyData.depth]
  | 0, .tup _ _, h => by simp [okD] at h
  | 0, .lst _, h => by simp [okD] at h
  | k + 1, .tup _ xs, h => by
    obtain ⟨h1, h2, h3⟩ := okD_list k (okD_ok k) xs (by simpa [okD] using h)
    simp only [plainD, toPy, PyData.canLay0, PyData.depth, h1, h2]
    exact ⟨trivial, trivial, by omega⟩
  | k + 1, .lst xs, h => by
    obtain ⟨h1, h2, h3⟩ := okD_list k (okD_ok k) xs (by simpa [okD] using h)
    simp only [plainD, toPy, PyData.canLay0, PyData.depth, h1, h2]
    exact ⟨trivial, trivial, by omega⟩
  | k, .frl _, h => by cases k <;> simp [okD] at h
  | k, .dK _, h => by cases k <;> simp [okD] at h
  | k, .dT _, h => by cases k <;> simp [okD] at h
  | k, .ins _ _, h => by cases k <;> simp [okD] at h
theorem pyOk_of {d : D} (h : okD 60 d = true) : pyOk d = true := by
  obtain ⟨h1, h2, h3⟩ := okD_ok 60 d h
  unfold pyOk SeqAt.shaped
  rw [h1, h2, decide_eq_true (by omega : PyData.depth (toPy d) ≤ 64)]; rfl
theorem pyOkL_of {ds : List D} (h : ds.all (okD 60) = true) : pyOkL ds = true := by
  obtain ⟨h1, h2, h3⟩ := okD_list 60 (okD_ok 60) ds h
  unfold pyOkL SeqAt.shaped
  rw [h1]
  have h4 : PyData.canLay0 (.list (toPyL ds)) = true := by simp only [PyData.canLay0]; exact h2
  have h5 : PyData.depth (.list (toPyL ds)) ≤ 64 := by simp only [PyData.depth]; omega
  rw [h4, decide_eq_true h5]; rfl
def deqL (xs ys : List D) : Bool := PyData.eqvAll (toPyL xs) (toPyL ys)
@[simp] theorem deq_lst (xs ys : List D) : deq (.lst xs) (.lst ys) = deqL xs ys := by unfold deq deqL; rw [toPy, toPy]; unfold PyData.eqv; rfl
@[simp] theorem deq_tup (m m' : Bool) (xs ys : List D) : deq (.tup m xs) (.tup m' ys) = deqL xs ys := by unfold deq deqL; rw [toPy, toPy]; unfold PyData.eqv; rfl
@[simp] theorem deq_non : deq .non .non = true := id rfl
@[simp] theorem deq_bl (a b : Bool) : deq (.bl a) (.bl b) = (a == b) := by unfold deq; rw [toPy, toPy]; unfold PyData.eqv; rfl
@[simp] theorem deq_non_int (i : Int) : deq .non (.int i) = false := by unfold deq; rw [toPy, toPy]; unfold PyData.eqv; rfl
@[simp] theorem deq_int_non (i : Int) : deq (.int i) .non = false := by unfold deq; rw [toPy, toPy]; unfold PyData.eqv; rfl
@[simp] theorem deq_non_tup (m : Bool) (xs : List D) : deq .non (.tup m xs) = false := by unfold deq; rw [toPy, toPy]; unfold PyData.eqv; rfl
@[simp] theorem deq_tup_non (m : Bool) (xs : List D) : deq (.tup m xs) .non = false := by unfold deq; rw [toPy, toPy]; unfold PyData.eqv; rfl
@[simp] theorem deqL_nil : deqL [] [] = true := by unfold deqL; simp [PyData.eqvAll]
@[simp] theorem deqL_nc (y : D) (ys : List D) : deqL [] (y :: ys) = false := by unfold deqL; simp [PyData.eqvAll]
@[simp] theorem deqL_cn (y : D) (ys : List D) : deqL (y :: ys) [] = false := by unfold deqL; simp [PyData.eqvAll]
@[simp] theorem deqL_cons (x y : D) (xs ys : List D) : deqL (x :: xs) (y :: ys) = (deq x y && deqL xs ys) := by unfold deqL deq; simp [PyData.eqvAll]
theorem deqL_map {α : Type} [DecidableEq α] (f : α → D) (hf : ∀ a b, deq (f a) (f b) = decide (a = b)) : ∀ xs ys : List α, deqL (xs.map f) (ys.map f) = decide (xs = ys)
  | [], [] => by simp
  | [], y :: ys => by simp
  | x :: xs, [] => by simp
  | x :: xs, y :: ys => by
    rw [List.map_cons, List.map_cons, deqL_cons, hf, deqL_map f hf xs ys]
    by_cases h : x = y
    · subst h; simp
    · simp [h]
@[simp] theorem deqL_ints (xs ys : List Int) : deqL (xs.map D.int) (ys.map D.int) = decide (xs = ys) := deqL_map D.int (fun a b => deq_int a b) xs ys
theorem oEq_of {x y : O} (h1 : okD 60 x.frz = true) (h2 : okD 60 y.frz = true) : oEq x y = some (.sh (.bl (deq x.frz y.frz))) := by
  unfold oEq oEqW
  rw [pyOk_of h1, pyOk_of h2]; rfl
theorem oNe_of {x y : O} (h1 : okD 60 x.frz = true) (h2 : okD 60 y.frz = true) : oNe x y = some (.sh (.bl (!deq x.frz y.frz))) := by
  unfold oNe oEqW
  rw [pyOk_of h1, pyOk_of h2]; rfl
@[simp] theorem okD_int (k : Nat) (i : Int) : okD k (.int i) = true := by cases k <;> rfl
@[simp] theorem okD_non (k : Nat) : okD k .non = true := by cases k <;> rfl
@[simp] theorem okD_bl (k : Nat) (b : Bool) : okD k (.bl b) = true := by cases k <;> rfl
@[simp] theorem okD_lst (k : Nat) (xs : List D) : okD (k + 1) (.lst xs) = xs.all (okD k) := id rfl
@[simp] theorem okD_tup (k : Nat) (m : Bool) (xs : List D) : okD (k + 1) (.tup m xs) = xs.all (okD k) := id rfl
@[simp] theorem ints_all (k : Nat) (l : List Int) : (l.map D.int).all (okD k) = true := by
  rw [List.all_eq_true]
  intro x hx
  obtain ⟨i, _, rfl⟩ := List.mem_map.mp hx
  exact okD_int k i
@[simp] theorem szOk_le {n : Nat} (h : n ≤ 16777216) : szOk n = true := decide_eq_true (by rw [lim_eq, sizeLine_eq]; exact h)
theorem li_eq (l : List Int) : (l.map fun i => O.sh (.int i)) = (l.map D.int).map O.sh := shI l
@[simp] theorem map_frz (l : List D) : (l.map O.sh).map O.frz = l := by
  rw [List.map_map]
  have : O.frz ∘ O.sh = id := by funext d; exact frz_sh d
  rw [this, List.map_id]
@[simp] theorem li_frz (l : List Int) : (O.lst (l.map fun i => O.sh (.int i))).frz = .lst (l.map .int) := by rw [frz_lst, li_eq, map_frz]
@[simp] theorem itemsD_ints (l : List Int) : itemsD (.lst (l.map fun i => O.sh (.int i))) = some (true, l.map D.int) := by rw [li_eq]; exact itemsD_own _
@[simp] theorem allSh_ints (l : List Int) : allSh (l.map fun i => O.sh (.int i)) = some (l.map D.int) := by rw [li_eq, allSh_map]
@[simp] theorem intsO_ints (l : List Int) : intsO (l.map fun i => O.sh (.int i)) = some l := by rw [li_eq, intsO_map]
@[simp] theorem oNe_li_nil (l : List Int) : oNe (.lst (l.map fun i => O.sh (.int i))) (.lst []) = some (.sh (.bl (!decide (l = [])))) := by
  have h : (O.lst []).frz = .lst [] := by simp
  rw [oNe_of (by rw [li_frz]; exact ints_all 59 l) (by rw [h]; rfl), li_frz, h]
  have := deqL_ints l []
  rw [deq_lst]
  simp only [List.map_nil] at this
  rw [this]
@[simp] theorem oLen_li (l : List Int) : oLen [.lst (l.map fun i => O.sh (.int i))] = some (.sh (.int l.length)) := by
  unfold oLen
  simp [seqO]
theorem atI_nat {α : Type} (xs : List α) (j : Nat) : atI xs (j : Int) = xs[j]? := by
  unfold atI ixN
  by_cases h : j < xs.length
  · simp [h]
  · simp [h]
theorem oAt_seq {x : O} {b : Bool} {ds : List D} {j : Int} {d : D} (h : itemsD x = some (b, ds)) (hj : atI ds j = some d) : oAt x (.sh (.int j)) = some (.sh d) := by
  unfold oAt orE oIx
  rw [h]
  simp [hj]
end
end FD
namespace FD
noncomputable section
theorem cutG_none {α : Type} (xs : List α) (k : Nat) : cutG xs none (some (k : Int)) = xs.take k := by
  unfold cutG
  rw [HT.sIx_none, HT.sIx_nat, List.drop_zero, Nat.sub_zero]
  by_cases h : k ≤ xs.length
  · rw [Nat.min_eq_left h]
  · rw [Nat.min_eq_right (by omega), List.take_of_length_le (Nat.le_refl _), List.take_of_length_le (by omega)]
theorem cutG_from {α : Type} (xs : List α) (k : Nat) : cutG xs (some (k : Int)) none = xs.drop k := by
  unfold cutG
  rw [HT.sIx_none, HT.sIx_nat]
  by_cases h : k ≤ xs.length
  · rw [Nat.min_eq_left h, List.take_of_length_le (by rw [List.length_drop]; omega)]
  · rw [Nat.min_eq_right (by omega), List.drop_eq_nil_of_le (Nat.le_refl _), List.drop_eq_nil_of_le (by omega)]; simp
end
end FD
namespace FD
noncomputable section
open PySem L2
theorem itemsP_lst (ys : List D) : itemsP (.lst ys) = some ys := by unfold itemsP; rfl
theorem itemsP_tup (m : Bool) (ys : List D) : itemsP (.tup m ys) = some ys := by unfold itemsP; rfl
theorem okD_all_lst {ys : List D} (h : ys.all (okD 59) = true) : okD 60 (.lst ys) = true := h
theorem oIn_seq {x y : O} {ys : List D} (hy : itemsP y.frz = some ys) (h1 : okD 60 x.frz = true) (h2 : ys.all (okD 59) = true) : oIn x y = some (.sh (.bl (ys.any fun z => deq z x.frz))) := by
  unfold oIn orE oInT
  rw [hy, Option.bind_some, pyOk_of h1, pyOk_of (okD_all_lst h2)]; rfl
theorem oNotIn_seq {x y : O} {ys : List D} (hy : itemsP y.frz = some ys) (h1 : okD 60 x.frz = true) (h2 : ys.all (okD 59) = true) : oNotIn x y = some (.sh (.bl (!ys.any fun z => deq z x.frz))) := by
  unfold oNotIn orE oInT
  rw [hy, Option.bind_some, pyOk_of h1, pyOk_of (okD_all_lst h2)]; rfl
theorem any_ints (l : List Int) (i : Int) : ((l.map D.int).any fun z => deq z (.int i)) = l.contains i := by
  induction l with
  | nil => rfl
  | cons a r ih =>
    rw [List.map_cons, List.any_cons, ih, deq_int, List.contains_cons]
    have : decide (a = i) = (i == a) := by rw [Bool.beq_eq_decide_eq]; exact decide_eq_decide.mpr ⟨Eq.symm, Eq.symm⟩
    rw [this]
@[simp] theorem oNotIn_li (l : List Int) (i : Int) : oNotIn (.sh (.int i)) (.lst (l.map fun i => O.sh (.int i))) = some (.sh (.bl (!l.contains i))) := by
  rw [oNotIn_seq (ys := l.map D.int) (by rw [li_frz]; exact itemsP_lst _) (by rw [frz_sh]; exact okD_int 60 i) (ints_all 59 l), frz_sh, any_ints]
@[simp] theorem oIn_tupI (m : Bool) (l : List Int) (i : Int) : oIn (.sh (.int i)) (.sh (.tup m (l.map D.int))) = some (.sh (.bl (l.contains i))) := by
  rw [oIn_seq (ys := l.map D.int) (by rw [frz_sh]; exact itemsP_tup _ _) (by rw [frz_sh]; exact okD_int 60 i) (ints_all 59 l), frz_sh, any_ints]
@[simp] theorem oNotIn_tupI (m : Bool) (l : List Int) (i : Int) : oNotIn (.sh (.int i)) (.sh (.tup m (l.map D.int))) = some (.sh (.bl (!l.contains i))) := by
  rw [oNotIn_seq (ys := l.map D.int) (by rw [frz_sh]; exact itemsP_tup _ _) (by rw [frz_sh]; exact okD_int 60 i) (ints_all 59 l), frz_sh, any_ints]
@[simp] theorem oIn_lstI (l : List Int) (i : Int) : oIn (.sh (.int i)) (.sh (.lst (l.map D.int))) = some (.sh (.bl (l.contains i))) := by
  rw [oIn_seq (ys := l.map D.int) (by rw [frz_sh]; exact itemsP_lst _) (by rw [frz_sh]; exact okD_int 60 i) (ints_all 59 l), frz_sh, any_ints]
@[simp] theorem oNotIn_lstI (l : List Int) (i : Int) : oNotIn (.sh (.int i)) (.sh (.lst (l.map D.int))) = some (.sh (.bl (!l.contains i))) := by
  rw [oNotIn_seq (ys := l.map D.int) (by rw [frz_sh]; exact itemsP_lst _) (by rw [frz_sh]; exact okD_int 60 i) (ints_all 59 l), frz_sh, any_ints]
@[simp] theorem oNe_lstI_nil (l : List Int) : oNe (.sh (.lst (l.map D.int))) (.lst []) = some (.sh (.bl (!decide (l = [])))) := by
  have h : (O.lst []).frz = .lst [] := by simp
  rw [oNe_of (by rw [frz_sh]; exact ints_all 59 l) (by rw [h]; rfl), frz_sh, h, deq_lst]
  have := deqL_ints l []
  simp only [List.map_nil] at this
  rw [this]
@[simp] theorem oEq_lstI_nil (l : List Int) : oEq (.sh (.lst (l.map D.int))) (.lst []) = some (.sh (.bl (decide (l = [])))) := by
  have h : (O.lst []).frz = .lst [] := by simp
  rw [oEq_of (by rw [frz_sh]; exact ints_all 59 l) (by rw [h]; rfl), frz_sh, h, deq_lst]
  have := deqL_ints l []
  simp only [List.map_nil] at this
  rw [this]
end
end FD
namespace FD
noncomputable section
open PySem L2
end
end FD


set_option Elab.async false
set_option linter.all false
set_option maxRecDepth 100000
namespace FD
open PySem L2
def Always (T : List O → RC) : Prop := ∀ ns : List Int, ns.length ≤ 63 → ∃ fin, T [.sh (.frl (ns.map .int))] = .ok (.sh (.bl true)) fin
end FD


set_option Elab.async false
set_option linter.all false
set_option maxRecDepth 100000
namespace PySem
theorem Runs.gens_le {M : Model} {Γ : Ctx} {p : Pos} {t : Sem Fin} {fs : List Frame} {s s' : Shared} {e : End} (h : Runs M Γ p t fs s e s') : s.gens.size ≤ s'.gens.size := by
  induction h <;> (try simp only [Shared.setGen, Array.size_setIfInBounds, Array.size_push] at *) <;> omega
theorem Returns.gens_le {M : Model} {Γ : Ctx} {p : Pos} {s s' : Shared} {r : Result} (h : Returns M Γ p s r s') : s.gens.size ≤ s'.gens.size := Runs.gens_le h
theorem Wakes.gens_le {M : Model} {Γ : Ctx} {p : Pos} {g : Nat} {r : Resume} {s s' : Shared} {res : GenResult} (h : Wakes M Γ p g r s res s') : s.gens.size ≤ s'.gens.size := by
  unfold Wakes at h
  split at h
  · exact h.elim
  · split at h
    · obtain ⟨e₁, s₁, hr, _, _, rfl⟩ := h
      have := Runs.gens_le hr
      simp only [Shared.setGen, Array.size_setIfInBounds] at *; omega
    · rw [h.2]; first | exact Nat.le_refl _ | (simp only [Shared.setGen, Array.size_setIfInBounds]; exact Nat.le_refl _)
    · rw [h.2]; first | exact Nat.le_refl _ | (simp only [Shared.setGen, Array.size_setIfInBounds]; exact Nat.le_refl _)
  · obtain ⟨e₁, s₁, hr, _, _, rfl⟩ := h
    have := Runs.gens_le hr
    simp only [Shared.setGen, Array.size_setIfInBounds] at *; omega
  · rw [h.2]; exact Nat.le_refl _
  · rw [h.2]; exact Nat.le_refl _
theorem Sem.wp_gens {α : Type} (M : Model) (Γ : Ctx) (n : Nat) (t : Sem α) : ∀ (Q : α → Pos → Shared → Prop) (E : Value → Pos → Shared → Prop) (p : Pos) (s : Shared), n ≤ s.gens.size → Sem.wp M Γ t Q E p s →
    Sem.wp M Γ t (fun a p' s' => n ≤ s'.gens.size ∧ Q a p' s') (fun e p' s' => n ≤ s'.gens.size ∧ E e p' s') p s := by
  induction t with
  | pure a => intro Q E p s hn h; exact ⟨hn, h⟩
  | raise e => intro Q E p s hn h; exact ⟨hn, h⟩
  | unsupported _ => intro Q E p s _ h; exact h
  | finish _ => intro Q E p s _ h; exact h
  | rule _ k ih => intro Q E p s hn h; exact ih () Q E p s hn h
  | «at» p' k ih => intro Q E p s hn h; exact ih () Q E p' s hn h
  | load a _ k ih => intro Q E p s hn h; obtain ⟨o, ho, h⟩ := h; exact ⟨o, ho, ih o Q E p s hn h⟩
  | update a _ f k ih => intro Q E p s hn h; exact ⟨h.1, ih () Q E p _ hn h.2⟩
  | loadIfAlive a k ih => intro Q E p s hn h; exact ih _ Q E p s hn h
  | point _ k ih => intro Q E p s hn h; exact ih () Q E p s hn h
  | register _ _ => intro Q E p s _ h; exact h
  | alloc o k ih => intro Q E p s hn h; exact ih _ Q E p _ hn h
  | fresh k ih => intro Q E p s hn h; exact ih _ Q E p _ hn h
  | ask k ih => intro Q E p s hn h; exact ih _ Q E p s hn h
  | choose src m k ih => intro Q E p s hn h; exact ⟨h.1, ih _ Q E p _ hn h.2⟩
  | os q _ k ih => intro Q E p s hn h; exact ih _ Q E p _ hn h
  | call c hd _ _ k ih => intro Q E p s hn h; obtain ⟨r, s', hr, h⟩ := h; exact ⟨r, s', hr, ih r Q E p s' (Nat.le_trans hn hr.gens_le) h⟩
  | handled own k ih => intro Q E p s hn h; exact ih _ Q E p s hn h
  | genState g k ih => intro Q E p s hn h; obtain ⟨st, hs, h⟩ := h; exact ⟨st, hs, ih _ Q E p s hn h⟩
  | newGen c k ih => intro Q E p s hn h; exact ih _ Q E p _ (by simp only [Array.size_push]; omega) h
  | resume g r _ k ih => intro Q E p s hn h; obtain ⟨res, s', hw, h⟩ := h; exact ⟨res, s', hw, ih res Q E p s' (Nat.le_trans hn hw.gens_le) h⟩
  | yield _ _ _ _ => intro Q E p s _ h; exact h
  | stack k ih => intro Q E p s hn h; exact ih _ Q E p s hn h
  | fork _ _ => intro Q E p s _ h; exact h
  | thread k ih => intro Q E p s hn h; exact ih _ Q E p s hn h
  | await _ _ _ _ _ => intro Q E p s _ h; exact h
theorem wpAny_gens {α : Type} {M : Model} {A : Around} {s : Shared} {t : Sem α} {Q : α → Shared → Prop} {E : Value → Shared → Prop} {n : Nat} (hn : n ≤ s.gens.size) (h : wpAny M A t Q E s) :
    wpAny M A t (fun a s' => n ≤ s'.gens.size ∧ Q a s') (fun e s' => n ≤ s'.gens.size ∧ E e s') s :=
  fun Γ p hΓ => Sem.wp_gens M Γ n t _ _ p s hn (h Γ p hΓ)
end PySem
namespace L2
open PySem PySem.Spec PyProof.Rows
theorem thnG {α : Type} {t : Sem α} {Q Q' : α → Shared → Prop} {M : Model} {A : Around} {E : Value → Shared → Prop} {s : Shared} {n : Nat} (hn : n ≤ s.gens.size) (h : wpAny M A t Q (fun _ _ => False) s) (hQ : ∀ a s', n ≤ s'.gens.size → Q a s' → Q' a s') : wpAny M A t Q' E s :=
  wpAny_mono (wpAny_gens hn h) (fun a s' x => hQ a s' x.1 x.2) fun _ _ z => z.2.elim
end L2


set_option Elab.async false
set_option linter.all false
set_option maxRecDepth 100000
namespace L2
open PySem PySem.Spec PyProof.Rows
abbrev Cx.gn (X : Cx) (A' : Around) (s : Shared) (H : Hp) (cenv : Env) (fp : List Addr) : Cx := { X with A := A', s_0 := s, H_0 := H, env := cenv, outer := X.stack, stack := cenv :: X.stack, ex := fp, fn := fun _ => false, pn := [], xe := fun _ _ => False }
structure GenX (scope : Scope) : Prop where
  co : scope.isCoroutine = false
  cell : ∀ y ∈ scope.names, y.2 ≠ .cell
  dot : scope.names.lookup (".0" : Str) = some NameKind.local
theorem Inv.gens {X : Cx} {pins : List (Addr × Obj)} {σ : St} {H : Hp} {s : Shared} (I : Inv X pins σ H s) {g' : Array GenState} (hg : AllBare g') : Inv X pins σ H { s with gens := g' } :=
  ⟨I.ok, I.os, hg, I.base, I.loc, I.cell, I.free, I.freeC, I.pin, I.hok, I.len⟩
theorem allBare_set {s : Shared} {g : Nat} {x : GenState} (h : AllBare s.gens) (hx : x.bare = true) : AllBare (s.setGen g x).gens := fun y hy => by
  obtain ⟨i, hi, rfl⟩ := Array.mem_iff_getElem.mp hy
  simp only [Shared.setGen] at hi ⊢
  rw [Array.getElem_setIfInBounds (by simpa using hi)]
  split
  · exact hx
  · exact h _ (Array.getElem_mem _)
section
variable {X : Cx} {pins : List (Addr × Obj)} {σ : St} {H : Hp} {s : Shared}
theorem gen_start {scope : Scope} {own : List (Str × Nat)} {fp : List Addr} {code : Value} {A' : Around} {h5 : Heap} {g' : Array GenState} {t' : Nat} {m : Str → Option Value} {a : Addr} {ob : Obj} (I : Inv X pins σ H s) (ok : BlkOk X.N X.env.scope scope own) (gx : GenX scope) (hN : X.N.Nodup)
    (hfp : ∀ b ∈ fp, FpOk X pins H b ∧ b < s.heap.objs.size) (hA : A'.handled = none) (hfr : A'.frames = some (genEnv scope (cloFrom X.env.cells scope.names []) s.heap.objs.size code builtinsNs X.env :: X.stack))
    (kp : ∀ b o, s.heap.get? b = some o → h5.get? b = some o) (hn : h5.Ns s.heap.objs.size m) (hgb : AllBare g') (ha : s.heap.objs.size < a) (hao : h5.get? a = some ob) (hoc : ∀ v, ob.data ≠ .cell v) :
    Inv (X.gn A' s H (genEnv scope (cloFrom X.env.cells scope.names []) s.heap.objs.size code builtinsNs X.env) fp) [(a, ob)] (wipe σ (own.map (·.2))) H { s with heap := h5, gens := g', toks := t' } := by
  have hfree : ∀ y ∈ scope.names, y.2 = .free → ∃ c, X.env.cells.lookup y.1 = some c := fun y hy e => by
    rcases ok.free y hy e with k | k
    · exact I.ok.has _ (.inl k)
    · exact I.ok.has _ (.inr k)
  generalize hcenv : genEnv scope (cloFrom X.env.cells scope.names []) s.heap.objs.size code builtinsNs X.env = cenv at hfr ⊢
  have hL : cenv.locals = s.heap.objs.size := by rw [← hcenv]; rfl
  have hcl : cenv.cells = cloFrom X.env.cells scope.names [] := by rw [← hcenv]; rfl
  have hsc : cenv.scope = scope := by rw [← hcenv]; rfl
  have cm : ∀ {y c}, (y, c) ∈ cloFrom X.env.cells scope.names [] → X.env.cells.lookup y = some c ∧ c < s.heap.objs.size := fun {y c} hm => by
    rcases cloFrom_mem hm with hm | ⟨h1, rfl⟩
    · cases hm
    · obtain ⟨c, hc⟩ := hfree _ h1 rfl
      rw [hc]
      obtain ⟨w, z⟩ := I.cell _ _ hc
      exact ⟨rfl, z.lt⟩
  have mem : ∀ {y c}, cenv.cells.lookup y = some c → X.env.cells.lookup y = some c ∧ c < s.heap.objs.size := fun {y c} e => by
    rw [hcl] at e
    exact cm (PySem.mem_of_lookup e)
  have look : ∀ {y}, scope.names.lookup y = some .free → ∃ c, cenv.cells.lookup y = some c ∧ X.env.cells.lookup y = some c := fun {y} hl => by
    have hy : (y, NameKind.free) ∈ scope.names := PySem.mem_of_lookup hl
    obtain ⟨c', e'⟩ := mem_lookup (cloFrom_has (cells := X.env.cells) (acc := []) hy)
    rw [← hcl] at e'
    exact ⟨c', e', (mem e').1⟩
  have nofr : ∀ f, s.heap.objs.size ≤ f → f ∉ frs X.stack := fun f hf z => by
    rcases List.mem_cons.mp (I.stkSub _ z) with e | e
    · have h1 := I.lt
      rw [← e] at h1
      exact Nat.lt_irrefl _ (Nat.lt_of_lt_of_le h1 hf)
    · exact I.nofs hf e
  have okB : (X.gn A' s H cenv fp).Ok := by
    refine ⟨I.ok.mod, by show cenv.scope.kind = _; rw [hsc]; exact ok.kind, by show cenv.globals = _; rw [← hcenv]; exact I.ok.glob, by show cenv.builtins = _; rw [← hcenv]; rfl, by show s.heap.objs.size ≤ cenv.locals; rw [hL]; exact Nat.le_refl _,
      fun y z c e1 e2 => ?_, fun y hy => ?_, fun y c z e => absurd (show false = true from z) (by decide), fun _ => hA, hfr, .inr ⟨rfl, ?_⟩, fun b hb => ⟨?_, fun y c e z => ?_⟩, I.bs, Nat.le_trans I.ok.bsz I.sz, fun b o e hb => ?_, fun b hb z => ?_, I.stack, I.stkFree⟩
    · exact I.ok.inj y z c (mem e1).1 (mem e2).1
    · show ∃ c, cenv.cells.lookup y = some c
      have key : cenv.kindOf y = some .free → ∃ c, cenv.cells.lookup y = some c := fun hk => by
        unfold Env.kindOf at hk
        rw [hsc] at hk
        obtain ⟨c, h1, _⟩ := look hk
        exact ⟨c, h1⟩
      rcases hy with hy | hy
      · have hy : cenv.kindOf y = some .cell := hy
        unfold Env.kindOf at hy
        rw [hsc] at hy
        exact absurd rfl (gx.cell _ (PySem.mem_of_lookup hy))
      · exact key hy
    · show cenv.frame = some cenv.locals
      rw [← hcenv]; rfl
    · show b ≠ cenv.locals
      rw [hL]; exact Nat.ne_of_lt (hfp b hb).2
    · exact (hfp b hb).1.2.2.2.2.1 y c (mem e).1 z
    · rcases (hfp b hb).1.2.2.2.1 with z | z
      · exact I.ok.noex b o e z
      · exact absurd (Nat.lt_of_lt_of_le (Heap.lt_size e) (Nat.le_trans I.ok.bsz z)) (Nat.lt_irrefl _)
    · rcases List.mem_cons.mp (I.stkSub b z) with z | z
      · exact (hfp b hb).1.2.1 z
      · exact (hfp b hb).1.2.2.1 z
  refine ⟨okB, rfl, hgb, Un.kept kp, ⟨m, by show Heap.Ns _ cenv.locals _; rw [hL]; exact hn, fun i y av e1 e2 e3 => ?_⟩, fun y c e => ?_, ?_, fun y c e => ?_, fun p hp => ?_, I.hok.kept kp, by rw [wipe_length]; exact I.len⟩
  · obtain ⟨e2, hne⟩ := wipe_some e2
    have e3 : Vis cenv.scope y := e3
    have no : ∀ k, scope.names.lookup y = some k → ¬ (k = .local ∨ k = .cell) := fun k e hh => by
      rcases ok.own _ (PySem.mem_of_lookup e) hh with e' | e'
      · obtain ⟨p, hp, hpy⟩ := List.mem_map.mp e'
        have e4 := ok.ix p hp
        have : p.1 = y := hpy
        rw [this] at e4
        exact hne (List.mem_map.mpr ⟨p, hp, nodup_ix hN e4 e1⟩)
      · exact e' (List.mem_of_getElem? e1)
    have hfr : scope.names.lookup y = some .free := by
      unfold Vis at e3
      rw [hsc] at e3
      rcases e3 with e3 | e3 | e3
      · exact absurd (.inl rfl) (no _ e3)
      · exact absurd (.inr rfl) (no _ e3)
      · exact e3
    obtain ⟨m, hn, hl⟩ := I.loc
    have hvis : Vis X.env.scope y := (ok.free _ (PySem.mem_of_lookup hfr) rfl).elim (fun k => .inr (.inl k)) (fun k => .inr (.inr k))
    obtain ⟨w, r, q⟩ := hl i y av e1 e2 hvis
    refine ⟨w, r, .inr ⟨.inr (by show cenv.kindOf y = _; unfold Env.kindOf; rw [hsc]; exact hfr), ?_⟩⟩
    obtain ⟨c, h1, h2⟩ := look hfr
    rcases q with ⟨k, _⟩ | ⟨_, c', e', z⟩
    · have k : X.env.scope.names.lookup y = some .local := k
      rcases ok.free _ (PySem.mem_of_lookup hfr) rfl with k' | k' <;> rw [show X.env.scope.names.lookup y = _ from k'] at k <;> cases k
    · rw [h2] at e'; cases e'
      exact ⟨c, h1, z.keeps kp⟩
  · obtain ⟨h1, _⟩ := mem e
    obtain ⟨w, z⟩ := I.cell y c h1
    exact ⟨w, z.keeps kp⟩
  · show H cenv.locals = none
    rw [hL]; exact I.hok.fresh (Nat.le_refl _)
  · exact I.freeC y c (mem e).1
  · have hp : p ∈ [(a, ob)] := by
      rcases List.mem_append.mp hp with z | z
      · exact absurd (show p ∈ ([] : List (Addr × Obj)) from z) (by simp)
      · exact z
    have hp : p = (a, ob) := by simpa using hp
    subst hp
    exact ⟨hao, I.hok.fresh (Nat.le_of_lt ha), by show a ≠ cenv.locals; rw [hL]; exact Nat.ne_of_gt ha, nofr a (Nat.le_of_lt ha), hoc⟩
end
end L2


set_option Elab.async false
set_option linter.all false
set_option maxRecDepth 100000
namespace L2
open PySem PySem.Spec PyProof.Rows
section
variable {X : Cx}
def gProto (Y0 : Cx) (σ : St) (a : Addr) (ob : Obj) (g : Nat) (sv : Bool) (Q : VK) : Protocol := fun _ _ v s kap => ∃ (c : Bool) (H : Hp), v = .bool c ∧ g < s.gens.size ∧ Inv Y0 [(a, ob)] σ H s ∧ (c = sv → Q (.bl sv) H) ∧
  (c = !sv → ∀ s'' : Shared, s''.heap = s.heap → s''.os = s.os → AllBare s''.gens → g < s''.gens.size → kap (.send .none) s'')
def gEnd (Y0 : Cx) (σ : St) (a : Addr) (ob : Obj) (g : Nat) (sv : Bool) (Q : VK) (_ : Nat) (_ s : Shared) : Prop := g < s.gens.size ∧ ∃ H, Inv Y0 [(a, ob)] σ H s ∧ Q (.bl (!sv)) H
def GTurn (sv : Bool) (J : It) (W : Nat → Nat → Hp → Prop) (g : TG) (tt : TT) (te : TE) (σ0 : St) (Q : VK) : Prop := ∀ i m H, W i m H →
  (J.stop i H ∧ Q (.bl (!sv)) H) ∨ (J.go i H ∧ ∃ Nx : Hp → Prop, (∀ H', Nx H' → ∃ m', m' < m ∧ W (i + 1) m' H') ∧ ∀ x H', J.yld i H x H' → g x σ0 H' fun σ2 H2 => (∃ hl : σ0.length = σ2.length, ∀ (j : Nat) v, σ0[j]? = some (some v) → σ2[j]? = some (some v)) ∧ tt σ2 H2 fun b H3 =>
    if b = true then te σ2 H3 fun y H4 => ∃ c, y = .bl c ∧ (if c = sv then Q (.bl sv) H4 else Nx H4) else Nx H3)
theorem atA {α : Type} {M : Model} {A B : Around} {t : Sem α} {Q : α → Shared → Prop} {E : Value → Shared → Prop} {s : Shared} (e : A = B) (h : wpAny M A t Q E s) : wpAny M B t Q E s := e ▸ h
theorem atX {α : Type} {Y0 : Cx} {M : Model} {B : Around} {t : Sem α} {Q : α → Shared → Prop} {s : Shared} (e : Y0.A = B) (hX : Y0.xe = fun _ _ => False) (h : wpAny M Y0.A t Q Y0.xe s) : wpAny M B t Q (fun _ _ => False) s := by
  rw [← e, ← hX]
  exact h
theorem Inv.same {Y0 : Cx} {pins : List (Addr × Obj)} {σ : St} {H : Hp} {s s' : Shared} (I : Inv Y0 pins σ H s) (hh : s'.heap = s.heap) (ho : s'.os = s.os) (hb : AllBare s'.gens) : Inv Y0 pins σ H s' := by
  obtain ⟨h', g', d', t', o'⟩ := s'
  subst hh
  exact ⟨I.ok, ho.trans I.os, hb, I.base, I.loc, I.cell, I.free, I.freeC, I.pin, I.hok, I.len⟩
theorem gen_loop {Y0 : Cx} {A2 : Around} {sv : Bool} {elt tg iter : Expr} {ifs : List Expr} {scope : Scope} {pos : Pos} {it a : Addr} {ob : Obj} {gn : Nat} {cenv : Env} {fp : List Addr} {tn : Nat → Heap → Prop} {J : It} {W : Nat → Nat → Hp → Prop} {g : TG} {tt : TT} {te : TE} {σ0 : St} {Q : VK}
    (hY : Y0.A = A2.over (.compLoop (.GeneratorExp elt [⟨tg, iter, ifs, 0⟩] scope pos) 0 (.ref it) .none cenv) []) (hE : Y0.env = cenv) (hX : Y0.xe = fun _ _ => False) (hc : Y0.calm = true) (hco : cenv.scope.isCoroutine = false) (hex : Y0.ex = fp) (hfa : ∀ b ∈ fp, a ≠ b) (hpn : Y0.pn = [])
    (T : Turn Y0.prog Y0.w Y0.K tg J fp it tn) (hg : PG Y0 tg g) (ht : PTs Y0 ifs tt) (he : PE Y0 elt te) (turn : GTurn sv J W g tt te σ0 Q) :
    ∀ (m K : Nat), m < K → ∀ (i : Nat) (s0 s : Shared) (H : Hp), Inv Y0 [(a, ob)] σ0 H s → tn i s.heap → (∀ b ∈ fp, H b = none) → W i m H → gn < s.gens.size →
      Seg (model Y0.prog Y0.w) A2 (fun n s₀ r s₁ => r = .ok .next ∧ gEnd Y0 σ0 a ob gn sv Q n s₀ s₁) (gProto Y0 σ0 a ob gn sv Q) K s0
        (.compLoop (.GeneratorExp elt [⟨tg, iter, ifs, 0⟩] scope pos) 0 (.ref it) .none cenv) ((model Y0.prog Y0.w).den (.compLoop (.GeneratorExp elt [⟨tg, iter, ifs, 0⟩] scope pos) 0 (.ref it) .none cenv)) [] s := by
  subst hE
  intro m
  induction m using Nat.strongRecOn with
  | ind m ih =>
    intro K hK i s0 s H I st nfp w gl
    obtain ⟨K, rfl⟩ : ∃ K', K = K' + 1 := ⟨K - 1, by omega⟩
    have stat : ∀ {σ' : St} {H' : Hp} {s' : Shared}, Inv Y0 [(a, ob)] σ' H' s' → (∀ b ∈ fp, H' b = none) → ∀ b ∈ fp, FpOk Y0 [(a, ob)] H' b := fun {σ' H' s'} I' hn b hb => by
      subst hex
      refine ⟨hn b hb, (I'.ok.exf b hb).1, I'.ok.exfs b hb, .inl hb, fun x c e => (I'.ok.exf b hb).2 x c e, fun p hp => ?_⟩
      rw [hpn] at hp
      have hp : p = (a, ob) := by simpa using hp
      subst hp
      exact hfa b hb
    show Seg _ A2 _ _ _ s0 _ ((compTurn (.GeneratorExp elt [⟨tg, iter, ifs, 0⟩] scope pos) 0 (.ref it) .none Y0.env).onRaise (leaving Y0.env)) [] s
    rw [compTurn_gen, Sem.onRaise_eq_wrap]
    refine seg_bind_wrap (wpAny_standAt ?_)
    rcases turn i m H w with ⟨stop, qq⟩ | ⟨go, Nx, hNx, step⟩
    · refine seg_bind_wrap (thnG gl (atA hY (T.done Y0 rfl rfl rfl hc i _ s _ H (fun _ _ => False) I (stat I nfp) st stop)) fun r s6 gl6 ⟨hr, I6⟩ => ?_)
      subst hr
      exact seg_end (.ok .next) ⟨rfl, gl6, H, I6, qq⟩
    · refine seg_bind_wrap (thnG gl (atA hY (T.item Y0 rfl rfl rfl hc i _ s _ H (fun _ _ => False) I (stat I nfp) st go)) fun r s6 gl6 ⟨u, hr, h6⟩ => ?_)
      subst hr
      refine seg_bind_wrap (thnG gl6 (atA hY h6) fun _ s7 gl7 ⟨x, H7, I7, r7, y7, st7, n7⟩ => ?_)
      have I7' := I7.pinned (stat I7 n7) (T.obj _ _ st7)
      refine seg_bind_wrap (thnG gl7 (atX hY hX (hg.run _ s7 _ H7 x u _ I7' r7 (step x H7 y7))) fun _ s8 gl8 ⟨σ8, H8, I8, ⟨hw8, hk8⟩, q8⟩ => ?_)
      refine seg_bind_wrap (thnG gl8 (atX hY hX (ht.run _ s8 σ8 H8 _ I8 q8)) fun b s9 gl9 ⟨H9, I9, q9⟩ => ?_)
      -- the turn's end
      have fin : ∀ {s' : Shared} {H' : Hp}, Inv Y0 ([(a, ob)] ++ pinsAt fp s7.heap) σ8 H' s' → Nx H' → ∃ m', m' < m ∧ Inv Y0 [(a, ob)] σ0 H' s' ∧ tn (i + 1) s'.heap ∧ (∀ b ∈ fp, H' b = none) ∧ W (i + 1) m' H' := fun {s' H'} I' nx => by
        obtain ⟨m', hm, w'⟩ := hNx H' nx
        have pin' : ∀ b ∈ fp, ∀ o, s7.heap.get? b = some o → s'.heap.get? b = some o ∧ H' b = none := fun b hb o e =>
          let z := I'.pin (b, o) (List.mem_append_right _ (List.mem_append_right _ (mem_pinsAt hb e)))
          ⟨z.1, z.2.1⟩
        refine ⟨m', hm, (I'.unpinned (pins := [(a, ob)])).weak hw8 hk8, T.keep _ _ _ st7 fun b hb o e => (pin' b hb o e).1, fun b hb => ?_, w'⟩
        obtain ⟨o, e, _⟩ := T.obj _ _ st7 b hb
        exact (pin' b hb o e).2
      cases b with
      | false =>
        simp only [Bool.false_eq_true, if_false] at q9 ⊢
        obtain ⟨m', hm, I10, st10, n10, w10⟩ := fin I9 q9
        exact seg_again rfl (ih m' hm (K + 1) (by omega) (i + 1) _ _ H9 I10 st10 n10 w10 gl9)
      | true =>
        simp only [if_true] at q9 ⊢
        have hy : ∀ v, yieldOut Y0.env v = yieldValue v := fun v => by simp only [yieldOut, hco, Bool.false_eq_true, if_false]
        simp only [hy]
        rw [Sem.bind_eq_wrap', Sem.bind_eq_wrap', Sem.wrap_wrap, Sem.wrap_wrap]
        refine seg_wrap (thnG gl9 (atX hY hX (he.run _ s9 σ8 H9 _ I9 q9)) fun y s10 gl10 ⟨yv, H10, I10, r10, c, hyc, q10⟩ => ?_)
        subst hyc
        have r10 : y = Value.bool c := r10
        subst r10
        by_cases hcs : c = sv
        · rw [if_pos hcs] at q10
          refine seg_at (seg_yield rfl rfl rfl ⟨c, H10, rfl, gl10, (I10.unpinned (pins := [(a, ob)])).weak hw8 hk8, fun _ => q10, fun z => ?_⟩)
          rw [hcs] at z
          cases sv <;> cases z
        · rw [if_neg hcs] at q10
          obtain ⟨m', hm, I11, st11, n11, w11⟩ := fin I10 q10
          refine seg_at (seg_yield rfl rfl rfl ⟨c, H10, rfl, gl10, I11, fun z => absurd z hcs, fun _ s'' hh ho hb hgl => ?_⟩)
          have I12 : Inv Y0 [(a, ob)] σ0 H10 s'' := I11.same hh ho hb
          exact seg_again rfl (ih m' hm K (by omega) (i + 1) _ _ H10 I12 (by rw [hh]; exact st11) n11 w11 hgl)
theorem gen_first {Y0 : Cx} {A2 : Around} {sv : Bool} {elt tg iter : Expr} {ifs : List Expr} {scope : Scope} {pos : Pos} {it a : Addr} {ob : Obj} {gn : Nat} {cenv : Env} {fp : List Addr} {tn : Nat → Heap → Prop} {J : It} {W : Nat → Nat → Hp → Prop} {g : TG} {tt : TT} {te : TE} {σ0 : St} {Q : VK}
    (hY : Y0.A = A2.over (.compLoop (.GeneratorExp elt [⟨tg, iter, ifs, 0⟩] scope pos) 0 (.ref it) .none cenv) []) (hE : Y0.env = cenv) (hX : Y0.xe = fun _ _ => False) (hc : Y0.calm = true) (hco : cenv.scope.isCoroutine = false) (hex : Y0.ex = fp) (hfa : ∀ b ∈ fp, a ≠ b) (hpn : Y0.pn = [])
    (T : Turn Y0.prog Y0.w Y0.K tg J fp it tn) (hg : PG Y0 tg g) (ht : PTs Y0 ifs tt) (he : PE Y0 elt te) (turn : GTurn sv J W g tt te σ0 Q)
    (m K : Nat) (hK : m < K) (s0 s : Shared) (H : Hp) (I : Inv Y0 [(a, ob)] σ0 H s) (st : tn 0 s.heap) (nfp : ∀ b ∈ fp, H b = none) (w : W 0 m H) (gl : gn < s.gens.size) :
      Seg (model Y0.prog Y0.w) A2 (fun n s₀ r s₁ => r = .ok .next ∧ gEnd Y0 σ0 a ob gn sv Q n s₀ s₁) (gProto Y0 σ0 a ob gn sv Q) K s0
        (.compStart (.GeneratorExp elt [⟨tg, iter, ifs, 0⟩] scope pos) 0 (.ref it) .none cenv) ((model Y0.prog Y0.w).den (.compStart (.GeneratorExp elt [⟨tg, iter, ifs, 0⟩] scope pos) 0 (.ref it) .none cenv)) [] s := by
  have loop := gen_loop hY hE hX hc hco hex hfa hpn T hg ht he turn m K hK 0 s0 s H I st nfp w gl
  show Seg _ A2 _ _ _ s0 _ ((compStart (.GeneratorExp elt [⟨tg, iter, ifs, 0⟩] scope pos) 0 (.ref it) .none cenv).onRaise (leaving cenv)) [] s
  unfold compStart
  rw [Sem.onRaise_eq_wrap]
  show Seg _ A2 _ _ _ s0 _ ((ask >>= _).wrap _ _ _ _) [] s
  refine seg_bind_wrap (wpAny_askSetting ?_)
  split
  · exact seg_again rfl loop
  · first
      | exact seg_bind_wrap (wpAny_rule (seg_bind_wrap (wpAny_standAt (seg_bind_wrap (T.self _ 0 s _ _ st (seg_again rfl loop))))))
      | (refine seg_bind_wrap (wpAny_rule ?_); show Seg _ A2 _ _ _ s0 _ ((standAt iter.pos >>= _).wrap _ _ _ _) [] s; exact seg_bind_wrap (wpAny_standAt (seg_bind_wrap (T.self _ 0 s _ _ st (seg_again rfl loop)))))
def GReady (Y0 : Cx) (A2 : Around) (σ0 : St) (a : Addr) (ob : Obj) (gn : Nat) (sv : Bool) (Q : VK) (K : Nat) (s : Shared) : Prop := ∃ gs, s.gens[gn]? = some gs ∧ (∃ H, Inv Y0 [(a, ob)] σ0 H s) ∧ ∀ s'' : Shared, s''.heap = s.heap → s''.os = s.os → AllBare s''.gens → gn < s''.gens.size →
  gs.Goes (model Y0.prog Y0.w) A2 (fun n s₀ r s₁ => r = .ok .next ∧ gEnd Y0 σ0 a ob gn sv Q n s₀ s₁) (gProto Y0 σ0 a ob gn sv Q) K (.send .none) s''
theorem setGen_size (s : Shared) (g : Nat) (x : GenState) : (s.setGen g x).gens.size = s.gens.size := by simp [Shared.setGen]
theorem setGen_lt {s : Shared} {g : Nat} (h : g < s.gens.size) (x : GenState) : (s.setGen g x).gens[g]? = some x := setGen_self (gs := s.gens[g]) (Array.getElem?_eq_getElem h)
theorem gen_next {Y0 : Cx} {A1 : Around} {sv : Bool} {a : Addr} {ob : Obj} {gn : Nat} {σ0 : St} {Q : VK} {K : Nat} {s : Shared} {Q' : Option Value → Shared → Prop} {E : Value → Shared → Prop} (hh : A1.handled = none) (hd : A1.depth < recursionLimit) (hob : ∀ h : Heap, h.get? a = some ob → h.IsGen a gn)
    (R : GReady Y0 A1.in1 σ0 a ob gn sv Q K s)
    (hsv : ∀ s' H, Inv Y0 [(a, ob)] σ0 H s' → Q (.bl sv) H → Q' (some (.bool sv)) s') (hn : ∀ s' K', K = K' + 1 → GReady Y0 A1.in1 σ0 a ob gn sv Q K' s' → Q' (some (.bool !sv)) s')
    (hdn : ∀ s' H, Inv Y0 [(a, ob)] σ0 H s' → Q (.bl (!sv)) H → Q' none s') : wpAny (model Y0.prog Y0.w) A1 (pyNext (.ref a)) Q' E s := by
  obtain ⟨gs, hgs, ⟨H, I⟩, go⟩ := R
  have gl : gn < s.gens.size := (Array.getElem?_eq_some_iff.mp hgs).1
  have hg := hob _ (I.pin (a, ob) (List.mem_append_right _ List.mem_cons_self)).1
  refine wpAny_pyNext_genexpQ (P := fun n s₀ s₁ => gEnd Y0 σ0 a ob gn sv Q n s₀ s₁) hh I.nolimit hd hg hgs (go _ rfl rfl (allBare_set I.bare rfl) (by rw [setGen_size]; exact gl)) (fun v s1 gs' hb hv => ?_) (fun s1 hp h' hk => ?_)
  · obtain ⟨c, H1, rfl, gl1, I1, q1, k1⟩ := hv
    by_cases hcs : c = sv
    · subst hcs
      exact hsv _ H1 (I1.gens (allBare_set I1.bare hb)) (q1 rfl)
    · have hcn : c = !sv := by cases c <;> cases sv <;> first | rfl | exact absurd rfl hcs
      subst hcn
      cases K with
      | zero => exact (k1 rfl s1 rfl rfl I1.bare gl1).elim
      | succ K => exact hn _ K rfl ⟨gs', setGen_lt gl1 gs', ⟨H1, I1.gens (allBare_set I1.bare hb)⟩, fun s'' e1 e2 e3 e4 => k1 rfl s'' e1 e2 e3 e4⟩
  · obtain ⟨gl1, H1, I1, q1⟩ := hp
    exact hdn _ H1 ((I1.gens (allBare_set I1.bare rfl)).kept (t' := s1.toks) hk) q1
theorem any_walk {Y0 : Cx} {A : Around} {a : Addr} {ob : Obj} {gn : Nat} {σ0 : St} {Q : VK} {R : Result → Shared → Prop} (hh : A.handled = none) (hd : A.in1.depth < recursionLimit) (hob : ∀ h : Heap, h.get? a = some ob → h.IsGen a gn)
    (hR : ∀ b s' H, Inv Y0 [(a, ob)] σ0 H s' → Q (.bl b) H → R (.ok (.ret (.bool b))) s') : ∀ (K : Nat) (s : Shared), GReady Y0 A.in1.in1 σ0 a ob gn true Q K s → codeAny (model Y0.prog Y0.w) A (.builtin "any.loop" ⟨[.ref a], []⟩) R s := by
  intro K
  induction K with
  | zero =>
    intro s G
    refine codeAny_builtin F.entry_any_loop ?_
    rw [Around.under_plainId F.plain_any_loop _]
    show wpAny _ A.in1 (pyNext (.ref a) >>= _) _ _ s
    refine wpAny_bind (gen_next (A1 := A.in1) hh hd hob G (fun s' H I q => ?_) (fun s' K' e _ => by cases e) (fun s' H I q => ?_))
    · refine wpAny_bind (wpAny_holding (wpAny_truthy_bool ?_))
      refine wpAny_bind (wpAny_letGo ?_)
      simp only [if_true]
      exact wpAny_bind (wpAny_rule (wpAny_pure (hR true _ H I q)))
    · exact wpAny_bind (wpAny_rule (wpAny_pure (hR false _ H I q)))
  | succ K ih =>
    intro s G
    refine codeAny_builtin F.entry_any_loop ?_
    rw [Around.under_plainId F.plain_any_loop _]
    show wpAny _ A.in1 (pyNext (.ref a) >>= _) _ _ s
    refine wpAny_bind (gen_next (A1 := A.in1) hh hd hob G (fun s' H I q => ?_) (fun s' K' e G' => ?_) (fun s' H I q => ?_))
    · refine wpAny_bind (wpAny_holding (wpAny_truthy_bool ?_))
      refine wpAny_bind (wpAny_letGo ?_)
      simp only [if_true]
      exact wpAny_bind (wpAny_rule (wpAny_pure (hR true _ H I q)))
    · cases e
      refine wpAny_bind (wpAny_holding (wpAny_truthy_bool ?_))
      refine wpAny_bind (wpAny_letGo ?_)
      simp only [Bool.not_true, Bool.false_eq_true, if_false]
      exact wpAny_pure ⟨plainId_quiet F.plain_any_loop _, ih s' G'⟩
    · exact wpAny_bind (wpAny_rule (wpAny_pure (hR false _ H I q)))
end
end L2


set_option Elab.async false
set_option linter.all false
set_option maxRecDepth 100000
namespace L2
open PySem PySem.Spec PyProof.Rows GxR
section
variable {X : Cx} {pins : List (Addr × Obj)} {σ : St} {H : Hp} {s : Shared}
def tAny (sv : Bool) (P : Addr) (wi : TI) (g : TG) (tt : TT) (te : TE) (vs : List Nat) : TE := fun σ H Q => wi σ H fun J H1 => H1 P = some (FD.TabE P) ∧ ∃ W : Nat → Nat → Hp → Prop, (∃ m, W 0 m H1) ∧ GTurn sv J W g tt te (wipe σ vs) Q
theorem upd_id {H : Hp} {a : Addr} {o : HO} (h : H a = some o) : upd H a o = H := by
  funext b
  unfold upd
  split
  · rename_i e; rw [e, h]
  · rfl
abbrev ForGn (X : Cx) (k : Nat) (scope : Scope) (p : Cx → Prop) : Prop := ∀ (A' : Around) (s : Shared) (H : Hp) (C : Addr) (cl : List (Str × Addr)) (code : Value) (fp : List Addr), Room k A' → A'.units + 65 < cLine → p (X.gn A' s H (genEnv scope cl C code builtinsNs X.env) fp)
theorem gen_make {sv : Bool} {c P : Addr} {elt tg iter : Expr} {ifs : List Expr} {gpos : Pos} {scope : Scope} {own : List (Str × Nat)} {wi : TI} {g : TG} {tt : TT} {te : TE} {k : Nat} {Q : VK} {Q' : Value → Shared → Prop}
    (hr : Room (k + 1) X.A) (TB : TabB X.base X.mg c P) (hcode : X.env.code = .ref c) (hc : X.calm = true) (hN : X.N.Nodup) (hi : PI X tg iter wi) (ok : BlkOk X.N X.env.scope scope own) (gx : GenX scope)
    (hg : ForGn X k scope fun Y => PG Y tg g) (ht : ForGn X k scope fun Y => PTs Y ifs tt) (he : ForGn X k scope fun Y => PE Y elt te) (hs : ∀ v, genFold iter X.env v = pure v) (I : Inv X pins σ H s) (h : tAny sv P wi g tt te (own.map (·.2)) σ H Q)
    (hQ : ∀ A' s0 H0 cenv fp a ob gn K s5, (∀ h : Heap, h.get? a = some ob → h.IsGen a gn) → GReady (X.gn A' s0 H0 cenv fp) X.A.in1.in1 (wipe σ (own.map (·.2))) a ob gn sv Q K s5 →
      (∀ b s' H', Inv (X.gn A' s0 H0 cenv fp) [(a, ob)] (wipe σ (own.map (·.2))) H' s' → Q (.bl b) H' → EP X pins σ Q (.bool b) s') → Q' (.ref a) s5) :
    wpAny (model X.prog X.w) X.A (eval (.GeneratorExp elt [⟨tg, iter, ifs, 0⟩] scope gpos) X.env) Q' X.xe s := by
  have hfree : ∀ y ∈ scope.names, y.2 = .free → ∃ c, X.env.cells.lookup y.1 = some c := fun y hy e => by
    rcases ok.free y hy e with k | k
    · exact I.ok.has _ (.inl k)
    · exact I.ok.has _ (.inr k)
  refine wpAny_GeneratorExp_make gx.co (closure_ok hfree) gx.cell gx.dot ok.kind (by have := hr.dp; omega) ?_ hs
  refine thn (hi.run pins s σ H _ I h) fun xv s1 hx => thn hx fun itv s2 h2 => ?_
  obtain ⟨it, fp, tn, J, H2, e, I2, T, st2, f2, hP, W, ⟨m0, w0⟩, turn⟩ := h2
  subst e
  obtain ⟨⟨ps, hPs, htri⟩, _, _⟩ := (show ObjOk X.prog X.w H2 s2.heap P (.ext fun h => ∃ ps : Array Value, h.get? P = some { cls := .none, data := .fields ps } ∧ TriplesOk ps.toList) from I2.hok P _ hP)
  have cd : PySem.W.CodeHd s2.heap c P := TB.code.keeps I2.bk
  have sz : ∀ b ∈ fp, b < s2.heap.objs.size := fun b hb => by
    obtain ⟨o, e, _⟩ := T.obj _ _ st2 b hb
    exact Heap.lt_size e
  refine ⟨I2.nolimit, ?_⟩
  have cont : ∀ (code : Value) (h3 : Heap) (tk : Nat) (ps' : Array Value), Heap.ExtBut P s2.heap h3 → s2.heap.objs.size ≤ h3.objs.size → h3.get? P = some { cls := .none, data := .fields ps' } → (∃ more, ps' = ps ++ more) → TriplesOk ps'.toList →
      wpAny (model X.prog X.w) X.A (builtinsFor X.env.globals X.env.builtins) (fun bi s₄ =>
        ∀ h', h'.Ns s₄.heap.objs.size (fun y => if y = ".0" then some (.ref it) else none) → Heap.SameBut s₄.heap.objs.size (s₄.heap.push { cls := .type "frame", data := .dict #[] }) h' →
          Q' (.ref h'.objs.size) { s₄ with
            gens := s₄.gens.push (.fresh (.compStart (.GeneratorExp elt [⟨tg, iter, ifs, 0⟩] scope gpos) 0 (.ref it) .none (genEnv scope (cloFrom X.env.cells scope.names []) s₄.heap.objs.size code bi X.env))),
            toks := s₄.toks + 1 + 1 + 1,
            heap := h'.push { cls := .type "generator", data := .fields #[.int s₄.gens.size 0, .str "<genexpr>" (s₄.toks + 1), .str (X.env.qual ++ "<genexpr>") (s₄.toks + 1 + 1)] } }) X.xe { s2 with heap := h3, toks := tk } := by
    intro code h3 tk ps' hx hsz hP3 hmore ht3
    obtain ⟨bm, ob, e1, e2, e3, e4, e5, e6, e7, e8⟩ := TB.bm
    refine wpAny_builtinsFor (m := X.mg) (by rw [I2.ok.glob]; exact (I2.mod.glob.keeps I2.bk).extBut hx TB.gP) e1 e2 (hx _ _ e4 (I2.bk _ _ e5)) e6 e7 e8 ?_
    obtain ⟨more, em⟩ := hmore
    subst em
    -- the state with the grown table
    have I3 : Inv X pins σ H2 { s2 with heap := h3, toks := tk } := by
      have z := I2.write (x := P) (e := P) (o := FD.TabE P) (h' := h3) (t' := tk) (by rw [hP]; trivial) (.inl rfl) (fun b u hb e => hx b u hb e) ⟨_, hP3⟩ ⟨⟨_, hP3, ht3⟩, ⟨_, hP3⟩, fun h1 h2 ⟨ps, e, t⟩ st => ⟨ps, st _ e, t⟩⟩
      rw [upd_id hP] at z
      exact z
    generalize hs3 : ({ s2 with heap := h3, toks := tk } : Shared) = s3 at I3 ⊢
    have hh3 : s3.heap = h3 := by rw [← hs3]
    have fne : ∀ b ∈ fp, b ≠ P := fun b hb z => by
      have := (f2 b hb).1
      rw [z, hP] at this; cases this
    have f3 : ∀ b ∈ fp, FpOk X pins H2 b ∧ b < s3.heap.objs.size := fun b hb =>
      ⟨f2 b hb, by rw [hh3]; exact Nat.lt_of_lt_of_le (sz b hb) hsz⟩
    have st3 : tn 0 s3.heap := T.keep _ _ _ st2 fun b hb o e => by rw [hh3]; exact hx b o (fne b hb) e
    intro h' hn' hs'
    have hsz' : h'.objs.size = s3.heap.objs.size + 1 := by rw [hs'.1, Heap.size_push]
    have keep' : ∀ b o, s3.heap.get? b = some o → h'.get? b = some o := fun b o e => hs'.extBut b o (Nat.ne_of_lt (Heap.lt_size e)) (Heap.get?_push_of_some _ e)
    generalize hob : ({ cls := .type "generator", data := .fields #[.int s3.gens.size 0, .str "<genexpr>" (s3.toks + 1), .str (X.env.qual ++ "<genexpr>") (s3.toks + 1 + 1)] } : Obj) = ob
    have hobi : ∀ h : Heap, h.get? h'.objs.size = some ob → h.IsGen h'.objs.size s3.gens.size := fun h e => ⟨_, _, _, e, by rw [← hob], by rw [← hob], by rw [← hob]⟩
    have keep5 : ∀ b o, s3.heap.get? b = some o → (h'.push ob).get? b = some o := fun b o e => Heap.get?_push_of_some _ (keep' b o e)
    generalize hcv : genEnv scope (cloFrom X.env.cells scope.names []) s3.heap.objs.size code builtinsNs X.env = cenv
    generalize hA' : X.A.in1.in1.over (.compLoop (.GeneratorExp elt [⟨tg, iter, ifs, 0⟩] scope gpos) 0 (.ref it) .none cenv) [] = A'
    have rA : Room k A' := by
      rw [← hA']
      refine ⟨hr.hd, ?_, ?_⟩
      · have h1 := hr.dp
        have e : (X.A.in1.in1.over (.compLoop (.GeneratorExp elt [⟨tg, iter, ifs, 0⟩] scope gpos) 0 (.ref it) .none cenv) []).depth = X.A.depth + 1 := rfl
        rw [e]; omega
      · have h1 := hr.un
        have e : (X.A.in1.in1.over (.compLoop (.GeneratorExp elt [⟨tg, iter, ifs, 0⟩] scope gpos) 0 (.ref it) .none cenv) []).units = X.A.units + 5 := rfl
        rw [e]; omega
    have uA : A'.units + 65 < cLine := by have := rA.un; omega
    have fA : A'.frames = some (cenv :: X.stack) := by
      rw [← hA']
      show pushEnvs [cenv] (pushEnvs [] X.A.frames) = _
      rw [I3.ok.frames]; rfl
    have I5 := gen_start (code := code) (A' := A') (h5 := h'.push ob) (g' := s3.gens.push (.fresh (.compStart (.GeneratorExp elt [⟨tg, iter, ifs, 0⟩] scope gpos) 0 (.ref it) .none cenv))) (t' := s3.toks + 1 + 1 + 1) (a := h'.objs.size) (ob := ob) I3 ok gx hN f3 rA.hd (by rw [hcv]; exact fA) keep5 (hn'.push _)
      (I3.bare.push rfl) (by omega) (Heap.get?_push_size _ (by rw [← hob]; rfl)) (by rw [← hob]; intro v z; cases z)
    rw [hcv] at I5
    have cS : cenv.scope = scope := by rw [← hcv]; rfl
    refine hQ A' s3 H2 cenv fp h'.objs.size ob s3.gens.size (m0 + 1) _ hobi ⟨_, Array.getElem?_push_size .., ⟨H2, I5⟩, fun s'' e1 e2 e3 e4 => ⟨rfl, ?_⟩⟩ fun b s' H' I' q' => ?_
    · have I6 : Inv (X.gn A' s3 H2 cenv fp) [(h'.objs.size, ob)] (wipe σ (own.map (·.2))) H2 s'' := I5.same e1 e2 e3
      have pg := hg A' s3 H2 s3.heap.objs.size (cloFrom X.env.cells scope.names []) code fp rA uA
      have pt := ht A' s3 H2 s3.heap.objs.size (cloFrom X.env.cells scope.names []) code fp rA uA
      have pe := he A' s3 H2 s3.heap.objs.size (cloFrom X.env.cells scope.names []) code fp rA uA
      rw [hcv] at pg pt pe
      exact gen_first (Y0 := X.gn A' s3 H2 cenv fp) (A2 := X.A.in1.in1) (J := J) (tn := tn) (W := W) (g := g) (tt := tt) (te := te) hA'.symm rfl rfl hc (by rw [cS]; exact gx.co) rfl (fun b hb => Nat.ne_of_gt (Nat.lt_trans (f3 b hb).2 (by omega))) rfl T pg pt pe turn m0 (m0 + 1) (Nat.lt_succ_self _) s'' s'' H2 I6
        (by rw [e1]; exact T.keep _ _ _ st3 fun b _ o e => keep5 b o e) (fun b hb => (f3 b hb).1.1) w0 e4
    · exact ⟨.bl b, H', I3.call' (ch := fp) I'.os I'.base I'.hok I'.bare fun b hb => ⟨(f3 b hb).1.2.2.2.1, (f3 b hb).1.2.1, (f3 b hb).1.2.2.2.2.1, (f3 b hb).1.2.2.2.2.2⟩, rfl, q'⟩
  cases hf : codeAmong gpos ps.toList with
  | none =>
    refine wpAny_genexprCodeX hcode (cd.code hPs htri) (cd.tab hPs) hf fun c' h' tk hx hge hlt hco' _ htab' _ => ?_
    obtain ⟨o1, vs, f1, tf, fl, tg, inF, tx, tt, op, _, _, _, _, _, _, _, _, _, htr, _⟩ := hco'
    exact cont _ h' tk _ hx (Nat.le_trans hge (Nat.le_of_lt hlt)) htab'.2 ⟨_, rfl⟩ htr
  | some cv =>
    refine wpAny_genexprCode_hit hcode (cd.code hPs htri) hf ?_
    exact cont cv s2.heap s2.toks ps (Heap.ExtBut.refl _ _) (Nat.le_refl _) hPs ⟨#[], by simp⟩ htri
theorem pe_any {c P : Addr} {elt tg iter : Expr} {ifs : List Expr} {p pos gpos : Pos} {scope : Scope} {own : List (Str × Nat)} {wi : TI} {g : TG} {tt : TT} {te : TE} {k : Nat}
    (hr : Room (k + 1) X.A) (hl : Gl X "any") (hm : X.mg "any" = none) (TB : TabB X.base X.mg c P) (hcode : X.env.code = .ref c) (hc : X.calm = true) (hN : X.N.Nodup) (hi : PI X tg iter wi) (ok : BlkOk X.N X.env.scope scope own) (gx : GenX scope)
    (hg : ForGn X k scope fun Y => PG Y tg g) (ht : ForGn X k scope fun Y => PTs Y ifs tt) (he : ForGn X k scope fun Y => PE Y elt te) (hs : ∀ v, genFold iter X.env v = pure v)
    (hst : starEach [.GeneratorExp elt [⟨tg, iter, ifs, 0⟩] scope gpos] X.env = (false, eval (.GeneratorExp elt [⟨tg, iter, ifs, 0⟩] scope gpos) X.env) :: starEach [] X.env := by rfl) :
    PE X (.Call (.Name "any" p) [.GeneratorExp elt [⟨tg, iter, ifs, 0⟩] scope gpos] [] pos) (tAny true P wi g tt te (own.map (·.2))) := by
  refine ⟨fun pins s σ H Q I h => ?_⟩
  refine wpAny_Call_Name_kw (ld_blt I hl hm boot_any ?_)
  refine PyProof.Rows.callWith_builtin1 ?_ hst (by rfl)
  rw [hst]
  show wpAny _ _ (spliced ((false, eval (.GeneratorExp elt [⟨tg, iter, ifs, 0⟩] scope gpos) X.env) :: backTo pos (starEach [] X.env))) _ _ s
  refine Calls.spliced_cons (gen_make hr TB hcode hc hN hi ok gx hg ht he hs I h fun A' s0 H0 cenv fp a ob gn K s5 hob G back => ?_)
  refine Calls.spliced_nil ?_
  refine call_function_tree F.kind_any F.plain_any F.entry_any (F.args_any1 _) ?_
  unfold Builtin.«any»
  refine wpAny_bind (m := oneArg "any" _) (wpAny_pure ?_)
  obtain ⟨gs, hgs, ⟨H5, I5⟩, go⟩ := id G
  refine wpAny_bind (wpAny_pyIter_gen (hob _ (I5.pin (a, ob) (List.mem_append_right _ List.mem_cons_self)).1) ?_)
  exact wpAny_pure ⟨plainId_quiet F.plain_any_loop _, any_walk (Y0 := X.gn A' s0 H0 cenv fp) (A := X.A) hr.hd (by have := hr.dp; show X.A.depth < _; omega) hob (fun b s' H' I' q' => back b s' H' I' q') K s5 G⟩
end
end L2


set_option Elab.async false
set_option linter.all false
set_option maxRecDepth 100000
namespace FD
noncomputable section
open PySem PySem.Spec L2
section
variable {X : Cx} {W : Wd} {Wx : WX} {G G' H H' : Hp} {env env' : En} {σ σ' : St} {Fs Fs' : Nat → Fp} {F F' : Fp}
def anP (sv : Bool) (tgt : D → En → Option En) (tt : En → RB) (el : En → RP) (env : En) : List D → RB
  | [] => .ok (!sv)
  | d :: ds => match tgt d env with
    | none => .stk
    | some e1 => match tt e1 with
      | .ok true => match el e1 with
        | .ok x => match asB x with
          | some c => match c == sv with
            | true => .ok sv
            | false => anP sv tgt tt el env ds
          | none => .stk
        | _ => .stk
      | .ok false => anP sv tgt tt el env ds
      | _ => .stk
def bAn (sv : Bool) (vs : List Nat) (it : En → R Unit (List D)) (tgt : D → En → Option En) (tt : En → RB) (el : En → RP) : En → RP := fun env => (it env).bind fun ds => (anP sv tgt tt el (wipeE env vs) ds).bind fun b => .ok (.sh (.bl b))
theorem anP_ok {sv : Bool} {tgt : D → En → Option En} {tt : En → RB} {el : En → RP} {env : En} : ∀ {ds : List D} {c : Nat} {u : Unit}, anP sv tgt tt el env ds ≠ .exc c u := by
  intro ds
  induction ds with
  | nil => intro c u h; cases h
  | cons d ds ih =>
    intro c u h
    unfold anP at h
    split at h
    · cases h
    · split at h
      · split at h
        · split at h
          · split at h
            · cases h
            · exact ih h
          · cases h
        · cases h
      · exact ih h
      · cases h
theorem an_core {n : Nat} {vs : List Nat} {sv : Bool} {Pt : Addr} {Q : VK} {it : En → R Unit (List D)} {tgt : D → En → Option En} {tt : En → RB} {el : En → RP} (hP : Pt ∈ W.tabs) (hlen : σ.length = n) (q : tV W Wx env (bAn sv vs it tgt tt el env) σ H Q) :
    tAny sv Pt (tJk W Wx env (it env)) (tG W (outs vs n) tgt) (fun σ H Q => ∃ a, tT W WxF a (tt a) σ H Q) (fun σ H Q => ∃ a, tV W WxF a (el a) σ H Q) vs σ H Q := by
  obtain ⟨G, Fs, S, q⟩ := q
  refine ⟨G, Fs, S, ?_⟩
  unfold bAn at q
  cases e1 : it env with
  | stk => rw [e1] at q; exact q
  | exc c u => rw [e1] at q; exact q
  | ok ds =>
    rw [e1, bind_ok] at q
    intro J G1 H1 Kp s1 kp nt src
    refine ⟨s1.b.tabs Pt hP, ?_⟩
    generalize hZ : anP sv tgt tt el (wipeE env vs) ds = Z at q
    obtain ⟨Gd, Y, w, hGd, hY⟩ := src
    refine ⟨fun i m H' => m = ds.length - i ∧ i ≤ ds.length ∧ ∃ G2, Sim W G2 (wipeE env vs) (wipe σ vs) H' Fs ∧ Sub G1 G2 ∧ Step W G H Emp G2 H' Emp ∧ Sub Kp H' ∧ Z = anP sv tgt tt el (wipeE env vs) (ds.drop i),
      ⟨ds.length, by simp, Nat.zero_le _, G1, (S.step0 s1).wipe _, fun _ _ h => h, s1, kp, hZ.symm⟩, ?_⟩
    rintro i m H' ⟨rfl, hi, G2, S2, sb, st, kp', eq⟩
    have gd : Gd H' := hGd H' (fun a o h => S2.le a o (sb a o h)) kp'
    by_cases hlt : i < ds.length
    · refine .inr ⟨w.goes i H' hlt gd, fun H'' => ∃ G2, Sim W G2 (wipeE env vs) (wipe σ vs) H'' Fs ∧ Sub G1 G2 ∧ Step W G H Emp G2 H'' Emp ∧ Sub Kp H'' ∧ Z = anP sv tgt tt el (wipeE env vs) (ds.drop (i + 1)), fun H'' p => ⟨ds.length - (i + 1), by omega, rfl, hlt, p⟩, fun x H3 y => ?_⟩
      obtain ⟨G3, d, hd, st3, rd⟩ := hY i G2 H' x H3 hlt sb S2.le S2.tb (w.yields i H' x H3 hlt gd y)
      have hdr : ds.drop i = d :: ds.drop (i + 1) := by
        obtain ⟨h1, h2⟩ := List.getElem?_eq_some_iff.mp hd
        rw [List.drop_eq_getElem_cons h1, h2]
      rw [hdr] at eq
      unfold anP at eq
      cases e3 : tgt d (wipeE env vs) with
      | none => rw [e3] at eq; rw [eq] at q; exact q.elim
      | some env1 =>
        rw [e3] at eq
        dsimp only at eq
        refine ⟨G3, _, env1, Fs, d, S2.step0 st3, rd, e3, fun σ2 Fs2 S4 sub4 p4 => ⟨?_, env1, G3, Fs2, S4, ?_⟩⟩
        · have e : wipe σ2 vs = wipe σ vs := wipe_of (by rw [hlen]; exact p4)
          refine ⟨by rw [← e, wipe_length], fun j v h => ?_⟩
          rw [← e] at h
          exact (wipe_some h).1
        · have st' := st.trans st3
          cases e4 : tt env1 with
          | stk => rw [e4] at eq; rw [eq] at q; exact q.elim
          | exc c u => rw [e4] at eq; rw [eq] at q; exact q.elim
          | ok b =>
            rw [e4] at eq
            intro G5 H5 s5
            have st5 := st'.trans s5
            have S5 := S2.step0 (st3.trans s5)
            have sb5 : Sub G1 G5 := fun a o h => s5.g a o (st3.g a o (sb a o h))
            have kp5 : Sub Kp H5 := fun a o h => s5.h a o (st3.h a o (kp' a o h) (fun h => h) (nt a o h)) (fun h => h) (nt a o h)
            cases b with
            | false =>
              rw [if_neg (by decide)]
              exact ⟨G5, S5, sb5, st5, kp5, eq⟩
            | true =>
              rw [if_pos rfl]
              refine ⟨env1, G5, Fs2, S4.step0 s5, ?_⟩
              dsimp only at eq
              cases e5 : el env1 with
              | stk => rw [e5] at eq; rw [eq] at q; exact q.elim
              | exc c u => rw [e5] at eq; rw [eq] at q; exact q.elim
              | ok y =>
                rw [e5] at eq
                dsimp only at eq
                intro v G6 H6 F1 s6 r6
                cases e6 : asB y with
                | none => rw [e6] at eq; rw [eq] at q; exact q.elim
                | some c =>
                  rw [e6] at eq
                  dsimp only at eq
                  obtain ⟨_, hv⟩ := rp_bl r6 e6
                  refine ⟨c, hv, ?_⟩
                  have s6' := s6.emp
                  have st6 := st5.trans s6'
                  by_cases hc : c = sv
                  · subst hc
                    rw [if_pos rfl]
                    rw [beq_self_eq_true] at eq
                    rw [eq] at q
                    exact q _ G6 H6 Emp st6 (.sh' (.bl _))
                  · rw [if_neg hc]
                    rw [beq_eq_false_iff_ne.mpr hc] at eq
                    exact ⟨G6, S5.step0 s6', fun a o h => s6.g a o (sb5 a o h), st6, fun a o h => s6.h a o (kp5 a o h) (fun h => h) (nt a o h), eq⟩
    · have e : i = ds.length := by omega
      subst e
      rw [List.drop_length] at eq
      unfold anP at eq
      rw [eq] at q
      exact .inl ⟨w.stops H' gd, q _ G2 H' Emp st (.sh' (.bl _))⟩
abbrev Gk (X : Cx) (k : Nat) (scope : Scope) (p : Cx → Prop) : Prop := ForGn X k scope p
theorem SV_any {c P : Addr} {elt tg iter : Expr} {ifs : List Expr} {p pos gpos : Pos} {scope : Scope} (own : List (Str × Nat)) {k : Nat} {it : En → R Unit (List D)} {tgt : D → En → Option En} {tt : En → RB} {el : En → RP}
    (hr : Room (k + 1) X.A) (hl : Gl X "any") (hm : X.mg "any" = none) (TB : GxR.TabB X.base X.mg c P) (hcode : X.env.code = .ref c) (hP : P ∈ W.tabs) (hc : X.calm = true) (hN : X.N.Nodup) (hi : SJk X W Wx tg it iter) (ok : BlkOk X.N X.env.scope scope own) (gx : GenX scope)
    (hg : Gk X k scope fun Y => SG Y W (outs (own.map (·.2)) X.N.length) tgt tg) (ht : Gk X k scope fun Y => STs Y W WxF tt ifs) (he : Gk X k scope fun Y => SV Y W WxF el elt) (hs : ∀ v, genFold iter X.env v = pure v := by intro _; rfl)
    (hst : starEach [.GeneratorExp elt [⟨tg, iter, ifs, 0⟩] scope gpos] X.env = (false, eval (.GeneratorExp elt [⟨tg, iter, ifs, 0⟩] scope gpos) X.env) :: starEach [] X.env := by rfl) :
    SV X W Wx (bAn true (own.map (·.2)) it tgt tt el) (.Call (.Name "any" p) [.GeneratorExp elt [⟨tg, iter, ifs, 0⟩] scope gpos] [] pos) := fun env =>
  ((pe_any hr hl hm TB hcode hc hN (hi env) ok gx (fun A' s H C cl cd fp r u => (hg A' s H C cl cd fp r u).pg) (fun A' s H C cl cd fp r u => PTs_any (ht A' s H C cl cd fp r u)) (fun A' s H C cl cd fp r u => PE_any (he A' s H C cl cd fp r u)) hs hst : PE X _ _)).imp' fun pins s σ H Q I q => an_core hP I.len q
end
end
end FD


set_option Elab.async false
set_option linter.all false
set_option maxRecDepth 100000
namespace FD
noncomputable section
open PySem PySem.Spec L2
open PyProof.Rows (envOfC)
section
variable {X : Cx} {W : Wd} {Wx : WX} {pr : List Nat} {G G' H H' : Hp} {env env' : En} {σ σ' : St} {Fs Fs' : Nat → Fp} {F F' : Fp}
def sStk : En → RS := fun _ => .stk
theorem SS_stk {st : Stmt} : SS X W Wx pr sStk st := fun env => ⟨fun pins s σ H D I q => by
  obtain ⟨G, Fs, S, q⟩ := q
  exact q.elim⟩
def bNotV (f : En → RP) : En → RP := fun env => (f env).bind fun x => (ofO (asB x) : RB).bind fun b => .ok (.sh (.bl (!b)))
theorem SV_not {f : En → RP} {a : Expr} {pos : Pos} (ha : SP X W Wx f a) : SV X W Wx (bNotV f) (.UnaryOp .Not a pos) := fun env => (pe_not (ha env)).imp fun σ H Q => by
  rintro ⟨G, Fs, S, q⟩
  refine ⟨G, Fs, S, ?_⟩
  unfold bNotV at q
  cases e1 : f env with
  | stk => rw [e1] at q; exact q
  | exc c u => rw [e1] at q; exact q
  | ok x =>
    rw [e1, bind_ok] at q
    intro v G1 H1 F1 s1 r1
    cases e2 : asB x with
    | none => rw [e2] at q; exact q.elim
    | some b =>
      rw [e2] at q
      obtain ⟨_, hv⟩ := rp_bl r1 e2
      exact ⟨b, hv, q _ G1 H1 Emp s1 (.sh' (.bl _))⟩
mutual
def tupD : D → Bool
  | .non => true
  | .bl _ => true
  | .int _ => true
  | .str _ => true
  | .tup _ xs => tupDL xs
  | _ => false
def tupDL : List D → Bool
  | [] => true
  | x :: xs => tupD x && tupDL xs
end
theorem tupDL_get : ∀ {xs : List D} {i : Nat} {d : D}, tupDL xs = true → xs[i]? = some d → tupD d = true
  | x :: xs, 0, d, h, e => by
    rw [tupDL, Bool.and_eq_true] at h
    cases e
    exact h.1
  | x :: xs, i + 1, d, h, e => by
    rw [tupDL, Bool.and_eq_true] at h
    exact tupDL_get h.2 e
theorem RpD.drop {C : Wc} {G G3 : Hp} (k : ∀ (p : Addr) (m : Bool) (vs : List V), TupAt G p m vs → TupAt G3 p m vs) {d : D} {v : V} (h : RpD C G d v) : tupD d = true → RpD C G3 d v := by
  induction h with
  | non => intro _; exact .non
  | bl b => intro _; exact .bl b
  | int i => intro _; exact .int i
  | str x => intro _; exact .str x
  | tup r l _ ih =>
    intro t
    rw [tupD] at t
    exact .tup (k _ _ _ r) l fun i d v e1 e2 => ih i d v e1 e2 (tupDL_get t e1)
  | lst r l _ ih => intro t; cases t
  | frl r l _ ih => intro t; cases t
  | dK r l _ ih => intro t; cases t
  | dT r l _ ih => intro t; cases t
  | ins r l _ ih => intro t; cases t
end
end
end FD


set_option Elab.async false
set_option linter.all false
set_option maxRecDepth 100000
namespace FD
noncomputable section
open PySem PySem.Spec L2
inductive PStep where
  | fld (f : Str) | ix (k : Nat)
def childO : PStep → O → Option O
  | .fld f, .ins _ fs => fs.lookup f
  | .ix k, .lst xs => xs[k]?
  | _, _ => none
def setC : PStep → O → O → O
  | .fld f, y, .ins c fs => .ins c (putFG f y fs)
  | .ix k, y, .lst xs => .lst (xs.set k y)
  | _, _, x => x
def subO : List PStep → O → Option O
  | [], x => some x
  | s :: p, x => (childO s x).bind (subO p)
def putO : List PStep → O → O → O
  | [], y, _ => y
  | s :: p, y, x => match childO s x with
    | some z => setC s (putO p y z) x
    | none => x
def ChV (H : Hp) : PStep → V → V → Prop
  | .fld f, v, w => ∃ a C dx fs, v = .ref a ∧ H a = some (.ins C dx fs) ∧ fs.lookup f = some w
  | .ix k, v, w => ∃ a vs, v = .ref a ∧ H a = some (.lst vs) ∧ vs[k]? = some w
def PathV (H : Hp) : List PStep → V → V → Prop
  | [], v, w => w = v
  | s :: p, v, w => ∃ u, ChV H s v u ∧ PathV H p u w
theorem ChV.uniq {H : Hp} {s : PStep} {v w w' : V} (h : ChV H s v w) (h' : ChV H s v w') : w = w' := by
  cases s with
  | fld f =>
    obtain ⟨a, C, dx, fs, rfl, e1, e2⟩ := h
    obtain ⟨a', C', dx', fs', e3, e4, e5⟩ := h'
    cases e3
    rw [e1] at e4; cases e4
    rw [e2] at e5; cases e5; rfl
  | ix k =>
    obtain ⟨a, vs, rfl, e1, e2⟩ := h
    obtain ⟨a', vs', e3, e4, e5⟩ := h'
    cases e3
    rw [e1] at e4; cases e4
    rw [e2] at e5; cases e5; rfl
theorem PathV.uniq {H : Hp} : ∀ {p : List PStep} {v w w' : V}, PathV H p v w → PathV H p v w' → w = w'
  | [], _, _, _, h, h' => h.trans h'.symm
  | s :: p, v, w, w', ⟨u, a, b⟩, ⟨u', a', b'⟩ => by
    have e := a.uniq a'
    subst e
    exact PathV.uniq b b'
theorem PathV.app {H : Hp} {s : PStep} {u w : V} (hc : ChV H s u w) : ∀ {p : List PStep} {v : V}, PathV H p v u → PathV H (p ++ [s]) v w
  | [], v, h => by cases h; exact ⟨w, hc, rfl⟩
  | t :: p, v, ⟨z, a, b⟩ => ⟨z, a, PathV.app hc b⟩
theorem lookup_place {α : Type} (f : Str) : ∀ fs : List (Str × α), fs.lookup f = (fs.map (·.2))[placeF f (fs.map (·.1))]?
  | [] => rfl
  | (g, x) :: r => by
    rw [List.lookup_cons, List.map_cons, List.map_cons, placeF]
    by_cases h : g = f
    · subst h
      rw [beq_self_eq_true, if_pos rfl]; rfl
    · have hb : (f == g) = false := by simpa using fun e : f = g => h e.symm
      rw [hb, if_neg h, List.getElem?_cons_succ]
      exact lookup_place f r
theorem putFG_self {α : Type} {f : Str} {v : α} : ∀ {fs : List (Str × α)}, fs.lookup f = some v → putFG f v fs = fs
  | (g, x) :: r, h => by
    rw [List.lookup_cons] at h
    unfold putFG
    by_cases e : g = f
    · subst e
      rw [beq_self_eq_true] at h
      cases h
      rw [if_pos rfl]
    · have hb : (f == g) = false := by simpa using fun q : f = g => e q.symm
      rw [hb] at h
      rw [if_neg e, putFG_self h]
structure Foc (C : Wc) (G H : Hp) (v w : V) (F F1 : Fp) (back : O → O) : Prop where
  sub : ∀ a, F1 a → F a
  back : ∀ (G' H' : Hp) (y' : O) (F1' : Fp), Sub G G' → (∀ a, F a → ¬ F1 a → G' a = none ∧ H' a = H a) → RpO C G' H' y' w F1' → (∀ a, F1' a → F a → F1 a) → RpO C G' H' (back y') v (fun a => (F a ∧ ¬ F1 a) ∨ F1' a)
theorem RpO.child {C : Wc} {G H : Hp} {s : PStep} {x y : O} {v : V} {F : Fp} (r : RpO C G H x v F) (e : childO s x = some y) : ∃ w F1, RpO C G H y w F1 ∧ ChV H s v w ∧ Foc C G H v w F F1 (fun y' => setC s y' x) := by
  cases s with
  | ix k =>
    cases r with
    | @lst xs p vs _ Fs g h l rp dj b hF =>
      have e : xs[k]? = some y := e
      have hk := (List.getElem?_eq_some_iff.mp e).1
      have hv : vs[k]? = some (vs[k]'(by rw [← l]; exact hk)) := List.getElem?_eq_getElem _
      refine ⟨_, Fs k, rp k _ _ e hv, ⟨p, vs, rfl, h, hv⟩, fun a ha => (hF a).mpr (.inr ⟨k, ha⟩), fun G' H' y' F1' sg kk r' s' => ?_⟩
      have hp : F p ∧ ¬ Fs k p := ⟨(hF p).mpr (.inl rfl), fun q => (b k p q).2 rfl⟩
      obtain ⟨k1, k2⟩ := kk p hp.1 hp.2
      have other : ∀ j a, j ≠ k → Fs j a → F a ∧ ¬ Fs k a := fun j a hj ha => ⟨(hF a).mpr (.inr ⟨j, ha⟩), fun q => dj j k a hj ha q⟩
      refine .lst (fun j => if j = k then F1' else Fs j) k1 (k2.trans h) (by rw [List.length_set]; exact l) (fun j d u e1 e2 => ?_) (fun i j a hij h1 h2 => ?_) (fun j a h1 => ?_) fun a => ⟨fun h1 => ?_, fun h1 => ?_⟩
      · by_cases hj : j = k
        · subst hj
          rw [List.getElem?_set_self hk] at e1
          cases e1
          rw [hv] at e2
          cases e2
          rw [if_pos rfl]; exact r'
        · rw [List.getElem?_set_ne (Ne.symm hj)] at e1
          rw [if_neg hj]
          exact (rp j d u e1 e2).keep sg fun a ha => kk a (other j a hj ha).1 (other j a hj ha).2
      · by_cases hi : i = k
        · by_cases hj : j = k
          · exact hij (hi.trans hj.symm)
          · rw [if_pos hi] at h1; rw [if_neg hj] at h2
            exact (other j a hj h2).2 (s' a h1 (other j a hj h2).1)
        · by_cases hj : j = k
          · rw [if_neg hi] at h1; rw [if_pos hj] at h2
            exact (other i a hi h1).2 (s' a h2 (other i a hi h1).1)
          · rw [if_neg hi] at h1; rw [if_neg hj] at h2
            exact dj i j a hij h1 h2
      · rw [List.length_set]
        by_cases hj : j = k
        · rw [if_pos hj] at h1
          refine ⟨by rw [hj]; exact hk, fun q => ?_⟩
          subst q
          exact hp.2 (s' a h1 hp.1)
        · rw [if_neg hj] at h1
          exact b j a h1
      · rcases h1 with ⟨h1, h2⟩ | h1
        · rcases (hF a).mp h1 with h1 | ⟨j, h1⟩
          · exact .inl h1
          · exact .inr ⟨j, by rw [if_neg fun q : j = k => h2 (by rw [← q]; exact h1)]; exact h1⟩
        · exact .inr ⟨k, by rw [if_pos rfl]; exact h1⟩
      · rcases h1 with h1 | ⟨j, h1⟩
        · rw [h1]; exact .inl hp
        · by_cases hj : j = k
          · rw [if_pos hj] at h1; exact .inr h1
          · rw [if_neg hj] at h1; exact .inl (other j a hj h1)
    | _ => cases e
  | fld f =>
    cases r with
    | @ins c xs p dx vs _ Fs g h l rp dj b hF =>
      have e : xs.lookup f = some y := e
      have e0 := e
      rw [lookup_place] at e
      generalize hK : placeF f (xs.map (·.1)) = k at e
      have hl : xs.length = vs.length := by simpa using congrArg List.length l
      have hk : k < xs.length := by have := (List.getElem?_eq_some_iff.mp e).1; simpa using this
      obtain ⟨w, hw⟩ : ∃ w, (vs.map (·.2))[k]? = some w := ⟨_, List.getElem?_eq_getElem (by rw [List.length_map, ← hl]; exact hk)⟩
      have hlw : vs.lookup f = some w := by rw [lookup_place, ← l, hK]; exact hw
      refine ⟨w, Fs k, rp k _ _ e hw, ⟨p, _, dx, vs, rfl, h, hlw⟩, fun a ha => (hF a).mpr (.inr ⟨k, ha⟩), fun G' H' y' F1' sg kk r' s' => ?_⟩
      have hp : F p ∧ ¬ Fs k p := ⟨(hF p).mpr (.inl rfl), fun q => (b k p q).2 rfl⟩
      obtain ⟨k1, k2⟩ := kk p hp.1 hp.2
      have other : ∀ j a, j ≠ k → Fs j a → F a ∧ ¬ Fs k a := fun j a hj ha => ⟨(hF a).mpr (.inr ⟨j, ha⟩), fun q => dj j k a hj ha q⟩
      have hkeys : (putFG f y' xs).map (·.1) = vs.map (·.1) := by
        have := putFG_keys f y' w l
        rw [putFG_self hlw] at this
        exact this
      have hlen : (putFG f y' xs).length = xs.length := by
        have := congrArg List.length hkeys
        simp only [List.length_map] at this
        omega
      refine .ins (fun j => if j = k then F1' else Fs j) k1 (k2.trans h) hkeys (fun j d u e1 e2 => ?_) (fun i j a hij h1 h2 => ?_) (fun j a h1 => ?_) fun a => ⟨fun h1 => ?_, fun h1 => ?_⟩
      · rw [putFG_vals, hK] at e1
        by_cases hj : j = k
        · rw [if_pos hj] at e1
          cases e1
          rw [hj, hw] at e2
          cases e2
          rw [if_pos hj]; exact r'
        · rw [if_neg hj] at e1
          rw [if_neg hj]
          exact (rp j d u e1 e2).keep sg fun a ha => kk a (other j a hj ha).1 (other j a hj ha).2
      · by_cases hi : i = k
        · by_cases hj : j = k
          · exact hij (hi.trans hj.symm)
          · rw [if_pos hi] at h1; rw [if_neg hj] at h2
            exact (other j a hj h2).2 (s' a h1 (other j a hj h2).1)
        · by_cases hj : j = k
          · rw [if_neg hi] at h1; rw [if_pos hj] at h2
            exact (other i a hi h1).2 (s' a h2 (other i a hi h1).1)
          · rw [if_neg hi] at h1; rw [if_neg hj] at h2
            exact dj i j a hij h1 h2
      · rw [hlen]
        by_cases hj : j = k
        · rw [if_pos hj] at h1
          refine ⟨by rw [hj]; exact hk, fun q => ?_⟩
          subst q
          exact hp.2 (s' a h1 hp.1)
        · rw [if_neg hj] at h1
          exact b j a h1
      · rcases h1 with ⟨h1, h2⟩ | h1
        · rcases (hF a).mp h1 with h1 | ⟨j, h1⟩
          · exact .inl h1
          · exact .inr ⟨j, by rw [if_neg fun q : j = k => h2 (by rw [← q]; exact h1)]; exact h1⟩
        · exact .inr ⟨k, by rw [if_pos rfl]; exact h1⟩
      · rcases h1 with h1 | ⟨j, h1⟩
        · rw [h1]; exact .inl hp
        · by_cases hj : j = k
          · rw [if_pos hj] at h1; exact .inr h1
          · rw [if_neg hj] at h1; exact .inl (other j a hj h1)
    | _ => cases e
theorem fp_eq {F F' : Fp} (h : ∀ a, F a ↔ F' a) : F = F' := funext fun a => propext (h a)
theorem RpO.path {C : Wc} {G H : Hp} {y : O} : ∀ {p : List PStep} {x : O} {v : V} {F : Fp}, RpO C G H x v F → subO p x = some y → ∃ w F1, RpO C G H y w F1 ∧ PathV H p v w ∧ Foc C G H v w F F1 (fun y' => putO p y' x)
  | [], x, v, F, r, e => by
    cases e
    refine ⟨v, F, r, rfl, fun _ h => h, fun G' H' y' F1' sg kk r' s' => ?_⟩
    rw [show (fun a => (F a ∧ ¬ F a) ∨ F1' a) = F1' from fp_eq fun a => ⟨fun h => h.elim (fun h => absurd h.1 h.2) id, .inr⟩]
    exact r'
  | s :: p, x, v, F, r, e => by
    replace e : (childO s x).bind (subO p) = some y := e
    cases e1 : childO s x with
    | none => rw [e1] at e; cases e
    | some z =>
      rw [e1, Option.bind_some] at e
      obtain ⟨u, F0, r0, c0, f0⟩ := RpO.child r e1
      obtain ⟨w, F1, r1, c1, f1⟩ := RpO.path r0 e
      refine ⟨w, F1, r1, ⟨u, c0, c1⟩, fun a h => f0.sub a (f1.sub a h), fun G' H' y' F1' sg kk r' s' => ?_⟩
      have q1 := f1.back G' H' y' F1' sg (fun a h n => kk a (f0.sub a h) n) r' fun a h h2 => s' a h (f0.sub a h2)
      have q2 := f0.back G' H' _ _ sg (fun a h n => kk a h fun q => n (f1.sub a q)) q1 fun a h h2 => h.elim (·.1) fun h => f1.sub a (s' a h h2)
      have e2 : putO (s :: p) y' x = setC s (putO p y' z) x := by
        show (match childO s x with | some z => setC s (putO p y' z) x | none => x) = _
        rw [e1]
      show RpO C G' H' (putO (s :: p) y' x) v _
      rw [e2, show (fun a => (F a ∧ ¬ F1 a) ∨ F1' a) = (fun a => (F a ∧ ¬ F0 a) ∨ ((F0 a ∧ ¬ F1 a) ∨ F1' a)) from fp_eq fun a => ⟨fun h => ?_, fun h => ?_⟩]
      · exact q2
      · rcases h with ⟨h, n⟩ | h
        · by_cases h0 : F0 a
          · exact .inr (.inl ⟨h0, n⟩)
          · exact .inl ⟨h, h0⟩
        · exact .inr (.inr h)
      · rcases h with ⟨h, n⟩ | ⟨h, n⟩ | h
        · exact .inl ⟨h, fun q => n (f1.sub a q)⟩
        · exact .inl ⟨f0.sub a h, n⟩
        · exact .inr h
section
variable {X : Cx} {W : Wd} {Wx : WX} {pr : List Nat} {G G' H H' : Hp} {env env' : En} {σ σ' : St} {Fs Fs' : Nat → Fp} {F F' : Fp}
theorem Sim.focus {i : Nat} {v w : V} {F1 : Fp} {bk : O → O} (S : Sim W G env σ H Fs) (hv : σ[i]? = some (some v)) (foc : Foc W.C G H v w (Fs i) F1 bk) (G' H' : Hp) (y' : O) (F1' Fnew : Fp) (s : Step W G H (fun a => F1 a ∨ Fnew a) G' H' F1') (hn : ∀ j a, Fnew a → ¬ Fs j a) (r' : RpO W.C G' H' y' w F1') :
    Sim W G' (env.set i (some (bk y'))) σ H' (setF Fs i fun a => (Fs i a ∧ ¬ F1 a) ∨ F1' a) ∧ Step W G H (fun a => All Fs a ∨ Fnew a) G' H' (All (setF Fs i fun a => (Fs i a ∧ ¬ F1 a) ∨ F1' a)) := by
  have alive : ∀ j a, Fs j a → H a ≠ none := fun j a ha q => by
    obtain ⟨_, o, h3, _⟩ := S.ow j a ha
    rw [h3] at q; cases q
  have stay : ∀ j a, Fs j a → ¬ F1 a → G' a = none ∧ H' a = H a := fun j a ha n => by
    obtain ⟨g, o, h3, nt⟩ := S.ow j a ha
    constructor
    · cases q : G' a with
      | none => rfl
      | some u =>
        rcases s.n a (by rw [q]; simp) with z | (z | z) | z
        · exact absurd g z
        · exact absurd z n
        · exact absurd ha (hn j a z)
        · exact absurd z (alive j a ha)
    · rw [s.h a o h3 (fun q => q.elim n fun z => hn j a z ha) nt.nt, h3]
  have in1 : ∀ j a, F1' a → Fs j a → F1 a := fun j a h1 h2 => by
    rcases s.f a h1 with (z | z) | z
    · exact z
    · exact absurd h2 (hn j a z)
    · exact absurd z (alive j a h2)
  have rr := foc.back G' H' y' F1' s.g (fun a ha n => stay i a ha n) r' fun a h1 h2 => in1 i a h1 h2
  have st : Step W G H (fun a => All Fs a ∨ Fnew a) G' H' (All (setF Fs i fun a => (Fs i a ∧ ¬ F1 a) ∨ F1' a)) := s.wide (fun a h => h.imp (fun h => ⟨i, foc.sub a h⟩) id) fun a ha => by
    rcases all_setF a ha with h | h
    · rcases h with h | h
      · exact .inl (.inl ⟨i, h.1⟩)
      · exact .inr h
    · exact .inl (.inl h)
  refine ⟨⟨s.le, by rw [List.length_set]; exact S.len, fun j d ej => ?_, fun j k a hjk h1 h2 => ?_, fun j a ha => ?_, s.b⟩, st⟩
  · by_cases hj : i = j
    · subst hj
      have hl : i < env.length := by
        have h1 := (List.getElem?_eq_some_iff.mp ej).1
        rw [List.length_set] at h1
        exact h1
      rw [List.getElem?_set_self hl] at ej
      cases ej
      refine ⟨v, hv, ?_⟩
      unfold setF
      rw [if_pos rfl]
      exact rr
    · rw [List.getElem?_set_ne hj] at ej
      obtain ⟨u, h1, h2⟩ := S.rp j d ej
      refine ⟨u, h1, ?_⟩
      unfold setF
      rw [if_neg (Ne.symm hj)]
      exact h2.keep s.g fun a ha => stay j a ha fun q => S.dj j i a (Ne.symm hj) ha (foc.sub a q)
  · unfold setF at h1 h2
    by_cases hj : j = i
    · by_cases hk : k = i
      · exact hjk (hj.trans hk.symm)
      · rw [if_pos hj] at h1; rw [if_neg hk] at h2
        rcases h1 with h1 | h1
        · exact S.dj i k a (fun q => hk q.symm) h1.1 h2
        · exact S.dj i k a (fun q => hk q.symm) (foc.sub a (in1 k a h1 h2)) h2
    · rw [if_neg hj] at h1
      by_cases hk : k = i
      · rw [if_pos hk] at h2
        rcases h2 with h2 | h2
        · exact S.dj i j a (fun q => hj q.symm) h2.1 h1
        · exact S.dj i j a (fun q => hj q.symm) (foc.sub a (in1 j a h2 h1)) h1
      · rw [if_neg hk] at h2
        exact S.dj j k a hjk h1 h2
  · unfold setF at ha
    by_cases hj : j = i
    · rw [if_pos hj] at ha
      exact rr.own a ha
    · rw [if_neg hj] at ha
      obtain ⟨g, o, h3, nt⟩ := S.ow j a ha
      obtain ⟨k1, k2⟩ := stay j a ha fun q => S.dj j i a hj ha (foc.sub a q)
      exact ⟨k1, o, k2.trans h3, nt⟩
theorem Sim.place {i : Nat} {p : List PStep} {x y : O} (S : Sim W G env σ H Fs) (h : gt env i = some x) (e : subO p x = some y) : ∃ v w F1, σ[i]? = some (some v) ∧ PathV H p v w ∧ RpO W.C G H y w F1 ∧ (∀ a, F1 a → Fs i a) ∧
    ∀ (G' H' : Hp) (y' : O) (F1' Fnew : Fp), Step W G H (fun a => F1 a ∨ Fnew a) G' H' F1' → (∀ j a, Fnew a → ¬ Fs j a) → RpO W.C G' H' y' w F1' →
      ∃ Fs', Sim W G' (env.set i (some (putO p y' x))) σ H' Fs' ∧ Step W G H (fun a => All Fs a ∨ Fnew a) G' H' (All Fs') := by
  obtain ⟨v, hv, r⟩ := S.rp i x (gt_some h)
  obtain ⟨w, F1, r1, pv, foc⟩ := RpO.path r e
  exact ⟨v, w, F1, hv, pv, r1, foc.sub, fun G' H' y' F1' Fnew s hn r' => ⟨_, Sim.focus S hv foc G' H' y' F1' Fnew s hn r'⟩⟩
theorem Foc.id {C : Wc} {v : V} {F : Fp} : Foc C G H v v F F fun y => y where
  sub := fun _ h => h
  back := fun G' H' y' F1' _ _ r _ => by
    rw [show (fun a => (F a ∧ ¬ F a) ∨ F1' a) = F1' from fp_eq fun a => ⟨fun h => h.elim (fun h => absurd h.1 h.2) (fun h => h), .inr⟩]
    exact r
end
end
end FD


set_option Elab.async false
set_option linter.all false
set_option maxRecDepth 100000
namespace FD
noncomputable section
open PySem PySem.Spec L2
section
variable {X : Cx} {W : Wd} {Wx : WX} {pr : List Nat} {G G' H H' : Hp} {env env' : En} {σ σ' : St} {Fs Fs' : Nat → Fp} {F F' : Fp}
def tPl (W : Wd) (Wx : WX) (i : Nat) (env : En) (r : R Unit (List PStep)) : TE := fun σ H Q => ∃ G Fs, Sim W G env σ H Fs ∧ match r with
  | .ok p => ∀ (v w : V) (x y : O) (G' H' : Hp), Step W G H Emp G' H' Emp → gt env i = some x → subO p x = some y → σ[i]? = some (some v) → PathV H' p v w → Q w H'
  | .exc c _ => ∀ G' H', Step W G H Emp G' H' Emp → Wx (.ref (W.C.cls c)) none σ H'
  | .stk => False
def SPl (X : Cx) (W : Wd) (Wx : WX) (i : Nat) (pl : En → R Unit (List PStep)) (e : Expr) : Prop := ∀ env, PE X e (tPl W Wx i env (pl env))
theorem ChV.step {s : PStep} {v w : V} (st : Step W G H Emp G' H' F') (h : ChV H s v w) : ChV H' s v w := by
  cases s with
  | fld f =>
    obtain ⟨a, C, dx, fs, rfl, e1, e2⟩ := h
    exact ⟨a, C, dx, fs, rfl, st.h a _ e1 (fun h => h) True.intro, e2⟩
  | ix k =>
    obtain ⟨a, vs, rfl, e1, e2⟩ := h
    exact ⟨a, vs, rfl, st.h a _ e1 (fun h => h) True.intro, e2⟩
theorem PathV.step (st : Step W G H Emp G' H' F') : ∀ {p : List PStep} {v w : V}, PathV H p v w → PathV H' p v w
  | [], _, _, h => h
  | s :: p, v, w, ⟨u, a, b⟩ => ⟨u, a.step st, PathV.step st b⟩
theorem Sim.at_ {i : Nat} {p : List PStep} {x y : O} {v w : V} (S : Sim W G env σ H Fs) (h : gt env i = some x) (e : subO p x = some y) (hv : σ[i]? = some (some v)) (hp : PathV H p v w) : ∃ F1, RpO W.C G H y w F1 ∧ (∀ a, F1 a → Fs i a) ∧
    ∀ (G' H' : Hp) (y' : O) (F1' Fnew : Fp), Step W G H (fun a => F1 a ∨ Fnew a) G' H' F1' → (∀ j a, Fnew a → ¬ Fs j a) → RpO W.C G' H' y' w F1' →
      ∃ Fs', Sim W G' (env.set i (some (putO p y' x))) σ H' Fs' ∧ Step W G H (fun a => All Fs a ∨ Fnew a) G' H' (All Fs') := by
  obtain ⟨v', w', F1, h1, h2, h3, h4, h5⟩ := S.place h e
  rw [hv] at h1
  cases h1
  have := hp.uniq h2
  subst this
  exact ⟨F1, h3, h4, h5⟩
def at2 (env : En) (i : Nat) (p : List PStep) : Option O := (gt env i).bind (subO p)
theorem at2_eq {i : Nat} {p : List PStep} {x y : O} (h : gt env i = some x) (e : subO p x = some y) : at2 env i p = some y := by unfold at2; rw [h]; exact e
end
end
end FD


set_option Elab.async false
set_option linter.all false
set_option maxRecDepth 100000
set_option maxHeartbeats 1000000
namespace L2
open PySem PySem.Spec PyProof.Rows LamX
section
variable {X : Cx} {pins : List (Addr × Obj)} {σ : St} {H : Hp} {s : Shared}
structure LamStep (T : List (Addr × Str)) (H H1 : Hp) : Prop where
  tabs : Tabs T H1
  keep : ∀ b o, H b = some o → (∀ p ∈ T, p.1 ≠ b) → H1 b = some o
  there : ∀ b, H b ≠ none → H1 b ≠ none
  new : ∀ p ∈ T, H1 p.1 ≠ none
end
end L2


set_option Elab.async false
set_option linter.all false
set_option maxRecDepth 100000
set_option maxHeartbeats 1000000
namespace L2
open PySem PySem.Spec PyProof.Rows LamX
section
variable {X : Cx} {pins : List (Addr × Obj)} {σ : St} {H : Hp} {s : Shared}
end
end L2


set_option Elab.async false
set_option linter.all false
set_option maxRecDepth 100000
set_option maxHeartbeats 2000000
namespace L2
open PySem PySem.Spec PyProof.Rows LamX
section
variable {X : Cx} {pins : List (Addr × Obj)} {σ : St} {H : Hp} {s : Shared}
structure KeyOk (kf : Nat → Int) (P : Nat → Hp → Prop) (K : PySem.W.Frag) (l : Addr) (ys : List V) (te : V → TE) (σ : St) : Prop where
  sq : ∀ j H, P j H → SqL K H l ys
  ev : ∀ j H y, ys[j]? = some y → P j H → te y σ H fun z H' => z = .int (kf j) ∧ P (j + 1) H'
end
end L2


set_option Elab.async false
set_option linter.all false
set_option maxRecDepth 100000
set_option maxHeartbeats 2000000
namespace L2
open PySem PySem.Spec PyProof.Rows LamX
section
variable {X : Cx} {pins : List (Addr × Obj)} {σ : St} {H : Hp} {s : Shared}
end
end L2


set_option Elab.async false
set_option linter.all false
set_option maxRecDepth 100000
set_option maxHeartbeats 2000000
namespace L2
open PySem PySem.Spec PyProof.Rows LamX
section
variable {X : Cx} {pins : List (Addr × Obj)} {σ : St} {H : Hp} {s : Shared}
end
end L2


set_option Elab.async false
set_option linter.all false
set_option maxRecDepth 100000
set_option maxHeartbeats 1000000
namespace L2
open PySem PySem.Spec PyProof.Rows LamX
section
variable {X : Cx} {pins : List (Addr × Obj)} {σ : St} {H : Hp} {s s0 : Shared}
structure Lam1 (N : List Str) (sc scope : Scope) (x : Str) (j : Nat) : Prop where
  ok : BlkOk N sc scope [(x, j)]
  cell : ∀ y ∈ scope.names, y.2 ≠ .cell
  co : scope.isCoroutine = false
  gen : scope.isGenerator = false
  loc : scope.names.lookup x = some .local
end
end L2


set_option Elab.async false
set_option linter.all false
set_option maxRecDepth 100000
namespace FD
noncomputable section
open PySem PySem.Spec L2
section
variable {X : Cx} {W : Wd} {Wx : WX} {G G' H H' : Hp} {env env' : En} {σ σ' : St} {Fs Fs' : Nat → Fp} {F F' : Fp}
theorem _root_.L2.LamStep.step {H1 : Hp} (ls : LamStep W.lams H H1) (le : Sub G H) (b : TabOk W G H) : Step W G H Emp G H1 Emp where
  g := fun _ _ h => h
  h := fun a o e _ nt => ls.keep a o e fun p hp z => by
    obtain ⟨ps, h1, _⟩ := b.lam p hp
    rw [z, e] at h1; cases h1; exact nt
  t := ls.there
  n := fun a h => .inl h
  f := fun a h => h.elim
  le := fun a o h => ls.keep a o (le a o h) fun p hp z => by
    have := b.g p hp
    rw [z, h] at this; cases this
  b := by
    refine ⟨fun P hP => ls.keep P _ (b.tabs P hP) fun p hp z => ?_, ls.tabs, b.g⟩
    obtain ⟨ps, h1, _⟩ := b.lam p hp
    have h2 := b.tabs P hP
    rw [← z, h1] at h2
    unfold TabE at h2
    cases h2
end
end
end FD


set_option Elab.async false
set_option linter.all false
set_option maxRecDepth 100000
namespace FD
noncomputable section
open PySem PySem.Spec L2
section
variable {X : Cx} {W : Wd} {Wx : WX} {pr : List Nat} {G G' H H' : Hp} {env env' : En} {σ σ' : St} {Fs Fs' : Nat → Fp} {F F' : Fp}
end
end
end FD


set_option Elab.async false
set_option linter.all false
set_option maxRecDepth 100000
namespace L2
open PySem PySem.Spec PyProof.Rows
section
variable {X : Cx}
end
end L2
namespace FD
noncomputable section
open PySem PySem.Spec L2
section
variable {X : Cx} {W : Wd} {Wx : WX} {pr : List Nat} {G G' H H' : Hp} {env env' : En} {σ σ' : St} {Fs Fs' : Nat → Fp} {F F' : Fp}
end
end
end FD


set_option Elab.async false
set_option linter.all false
set_option maxRecDepth 100000
namespace FD
noncomputable section
open PySem PySem.Spec L2
section
variable {X : Cx} {W : Wd} {Wx : WX} {pr : List Nat} {G G' H H' : Hp} {env env' : En} {σ σ' : St} {Fs Fs' : Nat → Fp} {F F' : Fp}
end
end
end FD


set_option Elab.async false
set_option linter.all false
set_option maxRecDepth 100000
namespace FD.Ty
open PySem L2 FD

abbrev M (α : Type) := R Unit α
def EG {α β : Type} (r : R Unit β) (t : M α) (e : α → β) : Prop := match t with
  | .ok v => r = .ok (e v)
  | .exc c _ => r = .exc c ()
  | .stk => True
def EX {α β : Type} (r : R En (β × En)) (t : M α) (e : α → β) (E : α → En) : Prop := match t with
  | .ok v => r = .ok (e v, E v)
  | .exc c _ => ∃ e', r = .exc c e'
  | .stk => True
inductive TR (ρ κ σ : Type) where
  | nx (s : σ) | rt (v : ρ) | bk (s : κ) | ct (s : κ) | exc (c : Nat) | stk
def SR {ρ κ σ : Type} (r : RS) (t : TR ρ κ σ) (F : ρ → O → En → Prop) (L : κ → En → Prop) (B : σ → En → Prop) : Prop := match t with
  | .nx s => ∃ e, r = .nx e ∧ B s e
  | .rt v => ∃ d e, r = .rt d e ∧ F v d e
  | .bk s => ∃ e, r = .bk e ∧ L s e
  | .ct s => ∃ e, r = .ct e ∧ L s e
  | .exc c => ∃ e, r = .exc c e
  | .stk => True
def RF {ρ : Type} (n : Nat) (r : RC) (t : M ρ) (ev : ρ → O) (ef : ρ → List O) : Prop := match t with
  | .ok v => r = .ok (ev v) (ef v)
  | .exc c _ => ∃ fin, r = .exc c fin ∧ fin.length = n
  | .stk => True
@[simp] def thn {α ρ κ σ : Type} (t : M α) (k : α → TR ρ κ σ) : TR ρ κ σ := match t with
  | .ok v => k v
  | .exc c _ => .exc c
  | .stk => .stk
@[simp] def sq {ρ κ σ τ : Type} (t : TR ρ κ σ) (k : σ → TR ρ κ τ) : TR ρ κ τ := match t with
  | .nx s => k s
  | .rt v => .rt v
  | .bk s => .bk s
  | .ct s => .ct s
  | .exc c => .exc c
  | .stk => .stk
@[simp] def forT {α ρ κ σ : Type} (f : α → σ → TR ρ σ σ) : List α → σ → TR ρ κ σ
  | [], s => .nx s
  | a :: l, s => match f a s with
    | .nx s => forT f l s
    | .ct s => forT f l s
    | .bk s => .nx s
    | .rt v => .rt v
    | .exc c => .exc c
    | .stk => .stk
def whT {ρ κ σ : Type} (c : σ → M Bool) (f : σ → TR ρ σ σ) : Nat → σ → TR ρ κ σ
  | 0, _ => .stk
  | n + 1, s => match c s with
    | .ok true => match f s with
      | .nx s => whT c f n s
      | .ct s => whT c f n s
      | .bk s => .nx s
      | .rt v => .rt v
      | .exc c => .exc c
      | .stk => .stk
    | .ok false => .nx s
    | .exc c _ => .exc c
    | .stk => .stk
@[simp] def finT {ρ κ : Type} (t : TR ρ κ ρ) : M ρ := match t with
  | .nx s => .ok s
  | .rt v => .ok v
  | .exc c => .exc c ()
  | _ => .stk
def lcM {α β : Type} (p : α → M Bool) (f : α → M β) : List α → M (List β)
  | [] => .ok []
  | a :: l => match p a with
    | .ok true => match f a with
      | .ok x => match lcM p f l with
        | .ok r => .ok (x :: r)
        | _ => .stk
      | _ => .stk
    | .ok false => lcM p f l
    | _ => .stk
def lcX {α β σ : Type} (f : α → σ → M (β × σ)) : List α → σ → M (List β × σ)
  | [], s => .ok ([], s)
  | a :: l, s => match f a s with
    | .ok (x, s) => match lcX f l s with
      | .ok (r, s) => .ok (x :: r, s)
      | _ => .stk
    | _ => .stk

@[reducible] def sh {α : Type} (d : α → D) : α → O := fun v => .sh (d v)
@[reducible] def oL {α : Type} (e : α → O) : List α → O := fun l => .lst (l.map e)
@[reducible] def dI : Int → D := D.int
@[reducible] def dB : Bool → D := D.bl
@[reducible] def dS : Str → D := D.str
@[reducible] def dN : Unit → D := fun _ => .non
@[reducible] def dL {α : Type} (d : α → D) : List α → D := fun l => .lst (l.map d)
@[reducible] def dF {α : Type} (d : α → D) : List α → D := fun l => .frl (l.map d)
@[reducible] def dT {α : Type} (m : Bool) (d : α → D) : List α → D := fun l => .tup m (l.map d)
@[reducible] def dX {α : Type} (d : α → D) : Bool × List α → D := fun l => .tup l.1 (l.2.map d)
def dO {α : Type} (d : α → D) : Option α → D
  | some v => d v
  | none => .non
@[reducible] def dP0 : Unit → D := fun _ => .tup false []
@[reducible] def dP2 {α β : Type} (d1 : α → D) (d2 : β → D) : α × β → D := fun v => .tup false [d1 v.1, d2 v.2]
@[reducible] def dP3 {α β γ : Type} (d1 : α → D) (d2 : β → D) (d3 : γ → D) : α × β × γ → D := fun v => .tup false [d1 v.1, d2 v.2.1, d3 v.2.2]
@[reducible] def dP4 {α β γ δ : Type} (d1 : α → D) (d2 : β → D) (d3 : γ → D) (d4 : δ → D) : α × β × γ × δ → D := fun v => .tup false [d1 v.1, d2 v.2.1, d3 v.2.2.1, d4 v.2.2.2]
@[reducible] def dK {α : Type} (d : α → D) : List (Int × α) → D := fun l => .dK (l.map fun p => (.inl p.1, d p.2))

section
variable {α β γ δ ρ κ σ τ : Type}
theorem EG.of {r : R Unit β} {v : α} {e : α → β} (h : r = .ok (e v)) : EG r (.ok v) e := h
theorem EG.eq {r : R Unit β} {v : α} {e : α → β} (h : EG r (.ok v) e) : r = .ok (e v) := h
theorem EG.bind {r : R Unit β} {t : M α} {e : α → β} {f : β → R Unit δ} {k : α → M γ} {e' : γ → δ} (h : EG r t e) (h2 : ∀ v, EG (f (e v)) (k v) e') : EG (r.bind f) (t.bind k) e' := by
  cases t with
  | ok v => rw [show r = .ok (e v) from h]; exact h2 v
  | exc c u => rw [show r = .exc c () from h]; exact rfl
  | stk => trivial
theorem EG.bindp {r : R Unit β} {v : α} {e : α → β} {f : β → R Unit δ} {k : M γ} {e' : γ → δ} (h : EG r (.ok v) e) (h2 : EG (f (e v)) k e') : EG (r.bind f) k e' := by
  rw [show r = .ok (e v) from h]; exact h2
theorem EG.co {r : R Unit β} {t : M α} {e : α → β} (f : α → γ) (e' : γ → β) (h : EG r t e) (hc : ∀ v, e v = e' (f v)) : EG r (t.bind fun v => .ok (f v)) e' := by
  cases t with
  | ok v => rw [show r = .ok (e v) from h, hc]; exact rfl
  | exc c u => rw [show r = .exc c () from h]; exact rfl
  | stk => trivial
theorem EG.cop {r : R Unit β} {v : α} {e : α → β} (f : α → γ) (e' : γ → β) (h : EG r (.ok v) e) (hc : ∀ v, e v = e' (f v)) : EG r (.ok (f v)) e' := by
  rw [show r = .ok (e v) from h, hc]; exact rfl
theorem EG.frz {r : RP} {t : M α} {e : α → O} {d : α → D} {env : En} {f : En → RP} (h : EG (f env) t e) (hf : ∀ v, (e v).frz = d v) : EG (bFrz f env) t (sh d) := by
  unfold bFrz
  cases t with
  | ok v => rw [show f env = .ok (e v) from h, bind_ok, hf]; exact rfl
  | exc c u => rw [show f env = .exc c () from h]; exact rfl
  | stk => trivial
theorem fz_sh (d : α → D) (v : α) : (sh d v).frz = d v := frz_sh _
theorem fz_oL {e : α → O} {d : α → D} (h : ∀ v, (e v).frz = d v) (l : List α) : (oL e l).frz = dL d l := by
  show (O.lst (l.map e)).frz = .lst (l.map d)
  rw [frz_lst, List.map_map]
  congr 1
  exact List.map_congr_left fun a _ => h a
theorem EG_bT {f : En → RP} {env : En} {t : M Bool} (h : EG (f env) t (sh dB)) : EG (bT f env) t id := by
  unfold bT
  cases t with
  | ok v => rw [show f env = .ok (sh dB v) from h]; exact rfl
  | exc c u => rw [show f env = .exc c () from h]; exact rfl
  | stk => trivial
theorem EG_and {f g : En → RB} {env : En} {t u : M Bool} (h : EG (f env) t id) (h2 : EG (g env) u id) : EG (bAnd f g env) (t.bind fun a => grd a u (.ok false)) id := by
  unfold bAnd
  refine h.bind fun a => ?_
  cases a with
  | true => exact h2
  | false => exact rfl
theorem EG_or {f g : En → RB} {env : En} {t u : M Bool} (h : EG (f env) t id) (h2 : EG (g env) u id) : EG (bOr f g env) (t.bind fun a => grd a (.ok true) u) id := by
  unfold bOr
  refine h.bind fun a => ?_
  cases a with
  | true => exact rfl
  | false => exact h2
theorem EG_chainp {go go' : O → O → Option O} {f g h : En → RP} {env : En} {a b : Bool} {x y z : O} (h1 : EG (f env) (.ok ()) fun _ => x) (h2 : EG (g env) (.ok ()) fun _ => y) (h3 : EG (h env) (.ok ()) fun _ => z)
    (k1 : go x y = some (.sh (.bl a))) (k2 : go' y z = some (.sh (.bl b))) : EG (bChain go go' f g h env) (.ok (a && b)) (sh dB) := by
  unfold bChain
  rw [show f env = .ok x from h1, show g env = .ok y from h2, bind_ok, bind_ok, k1, show h env = .ok z from h3]
  cases a with
  | true =>
    show ofO (go' y z) = _
    rw [k2]; rfl
  | false => exact rfl
theorem EG.unit {r : R Unit β} {v : α} {e : α → β} (h : EG r (.ok v) e) : EG r (.ok ()) fun _ => e v := h
theorem EG_var {i : Nat} {env : En} {v : α} {e : α → O} (h : gt env i = some (e v)) : EG (bVar i env) (.ok v) e := by
  unfold bVar; rw [h]; exact rfl
theorem EG_sh {i : Nat} {env : En} {v : α} {d : α → D} (h : gt env i = some (.sh (d v))) : EG (bSh i env) (.ok v) (sh d) := by
  unfold bSh; rw [h]; exact rfl
theorem EX.of {r : R En (β × En)} {v : α} {e : α → β} {E : α → En} (h : r = .ok (e v, E v)) : EX r (.ok v) e E := h
theorem EX.bind {r : R En (β × En)} {t : M α} {e : α → β} {E : α → En} {f : β × En → R En (δ × En)} {k : α → M γ} {e' : γ → δ} {E' : γ → En} (h : EX r t e E) (h2 : ∀ v, EX (f (e v, E v)) (k v) e' E') : EX (r.bind f) (t.bind k) e' E' := by
  cases t with
  | ok v => rw [show r = .ok (e v, E v) from h]; exact h2 v
  | exc c u => obtain ⟨e1, h⟩ := h; rw [h]; exact ⟨e1, rfl⟩
  | stk => trivial
theorem EX.bindp {r : R En (β × En)} {v : α} {e : α → β} {E : α → En} {f : β × En → R En (δ × En)} {k : M γ} {e' : γ → δ} {E' : γ → En} (h : EX r (.ok v) e E) (h2 : EX (f (e v, E v)) k e' E') : EX (r.bind f) k e' E' := by
  rw [show r = .ok (e v, E v) from h]; exact h2
theorem EX_pE {f : En → RP} {env : En} {t : M α} {e : α → O} (h : EG (f env) t e) : EX (pE f env) t e (fun _ => env) := by
  unfold pE
  cases t with
  | ok v => rw [show f env = .ok (e v) from h]; exact rfl
  | exc c u => rw [show f env = .exc c () from h]; exact ⟨env, rfl⟩
  | stk => trivial
theorem EX.frz {f : En → RE} {env : En} {t : M α} {e : α → O} {E : α → En} {d : α → D} (h : EX (f env) t e E) (hf : ∀ v, (e v).frz = d v) : EX (eFrz f env) t (sh d) E := by
  unfold eFrz
  cases t with
  | ok v => rw [show f env = .ok (e v, E v) from h, bind_ok, hf]; exact rfl
  | exc c u => obtain ⟨e1, h⟩ := h; rw [h]; exact ⟨e1, rfl⟩
  | stk => trivial
theorem EX.co {r : R En (β × En)} {t : M α} {e : α → β} {E : α → En} (f : α → γ) (e' : γ → β) (E' : γ → En) (h : EX r t e E) (hc : ∀ v, e v = e' (f v)) (hE : ∀ v, E v = E' (f v)) : EX r (t.bind fun v => .ok (f v)) e' E' := by
  cases t with
  | ok v => rw [show r = .ok (e v, E v) from h, hc, hE]; exact rfl
  | exc c u => exact h
  | stk => trivial
def finO (o : Option O) (env : En) : RE := match o with
  | some z => .ok (z, env)
  | none => .stk
theorem EX_ofM {o : Option O} {t : M α} {e : α → O} {env : En} (h : EG (ofO o) t e) : EX (finO o env) t e (fun _ => env) := by
  cases o with
  | none =>
    cases t with
    | ok v => cases h
    | exc c u => cases h
    | stk => trivial
  | some z =>
    cases t with
    | ok v => have : (R.ok z : RP) = .ok (e v) := h; cases this; exact rfl
    | exc c u => cases h
    | stk => trivial
theorem EX_lend {β : Type} {i : Nat} {g : En → R En (List O × En)} {env : En} {d : O} {t : M α} {e : α → List O} {E : α → En} (hg : gt env i = some d) (h : EX (g (env.set i none)) t e E) : EX (nLend i g env) t (fun v => d :: e v) E := by
  unfold nLend
  rw [hg]
  dsimp only
  cases t with
  | ok v => rw [show g (env.set i none) = .ok (e v, E v) from h]; exact rfl
  | exc c u => obtain ⟨e1, h⟩ := h; rw [h]; exact ⟨e1, rfl⟩
  | stk => trivial
theorem EX_nil {env : En} : EX (nNil env) (.ok ()) (fun _ => []) (fun _ => env) := rfl
theorem EX_consp {f : En → RE} {g : En → R En (List O × En)} {env : En} {x : α} {e : α → O} {E : α → En} {t : M γ} {e2 : γ → List O} {E2 : γ → En} (h : EX (f env) (.ok x) e E) (h2 : EX (g (E x)) t e2 E2) : EX (nCons f g env) t (fun v => e x :: e2 v) E2 := by
  unfold nCons
  rw [show f env = .ok (e x, E x) from h, bind_ok]
  cases t with
  | ok v => rw [show g (E x) = .ok (e2 v, E2 v) from h2]; exact rfl
  | exc c u => obtain ⟨e1, h⟩ := h2; rw [h]; exact ⟨e1, rfl⟩
  | stk => trivial
theorem EX_cons {f : En → RE} {g : En → R En (List O × En)} {env : En} {s : M α} {e : α → O} {E : α → En} {t : α → M γ} {e2 : γ → List O} {E2 : α × γ → En} (h : EX (f env) s e E) (h2 : ∀ x, EX (g (E x)) (t x) e2 (fun v => E2 (x, v))) :
    EX (nCons f g env) (s.bind fun x => (t x).bind fun v => .ok (x, v)) (fun p => e p.1 :: e2 p.2) E2 := by
  unfold nCons
  refine h.bind fun x => ?_
  refine (h2 x).bind fun v => ?_
  exact rfl
theorem EX_call {n : Nat} {T : List O → RC} {bk : List (Nat × Nat)} {h : En → R En (List O × En)} {env : En} {a : α} {e : α → List O} {E : α → En} {t : M ρ} {ev : ρ → O} {ef : ρ → List O} {E' : ρ → En} (hh : EX (h env) (.ok a) e E) (hT : RF n (T (e a)) t ev ef)
    (hp : ∀ v, putB bk (ef v) (E a) = some (E' v)) (hx : ∀ fin : List O, fin.length = n → ∃ e, putB bk fin (E a) = some e) : EX (eCall T bk h env) t ev E' := by
  unfold eCall
  rw [show h env = .ok (e a, E a) from hh, bind_ok]
  cases t with
  | ok v =>
    dsimp only
    rw [show T (e a) = .ok (ev v) (ef v) from hT]
    dsimp only
    rw [hp]; exact rfl
  | exc c u =>
    obtain ⟨fin, h1, h2⟩ := hT
    obtain ⟨e1, h3⟩ := hx fin h2
    dsimp only
    rw [h1]
    dsimp only
    rw [h3]; exact ⟨e1, rfl⟩
  | stk => trivial
theorem putx_one (i : Nat) (e : En) : ∀ (fin : List O) (_ : fin.length = 1), ∃ e', putB [(i, 0)] fin e = some e'
  | [x], _ => ⟨_, rfl⟩
end
end FD.Ty


set_option Elab.async false
set_option linter.all false
set_option maxRecDepth 100000
namespace FD.Ty
open PySem L2 FD
section
variable {α β γ δ ρ κ σ τ : Type}
theorem EG_nil {env : En} : EG (aNil env) (.ok ()) (fun _ => []) := rfl
theorem EG_consp {f : En → RP} {g : En → R Unit (List O)} {env : En} {x : α} {e : α → O} {t : M γ} {e2 : γ → List O} (h : EG (f env) (.ok x) e) (h2 : EG (g env) t e2) : EG (aCons f g env) t (fun v => e x :: e2 v) := by
  unfold aCons
  rw [show f env = .ok (e x) from h, bind_ok]
  cases t with
  | ok v => rw [show g env = .ok (e2 v) from h2]; exact rfl
  | exc c u => rw [show g env = .exc c () from h2]; exact rfl
  | stk => trivial
theorem EG_cons {f : En → RP} {g : En → R Unit (List O)} {env : En} {s : M α} {e : α → O} {t : M γ} {e2 : γ → List O} (h : EG (f env) s e) (h2 : EG (g env) t e2) : EG (aCons f g env) (s.bind fun x => t.bind fun v => .ok (x, v)) (fun p => e p.1 :: e2 p.2) := by
  unfold aCons
  exact h.bind fun x => h2.bind fun v => rfl
theorem EG_consm {f : En → RP} {g : En → R Unit (List O)} {env : En} {s : M α} {e : α → O} {u : γ} {e2 : γ → List O} (h : EG (f env) s e) (h2 : EG (g env) (.ok u) e2) : EG (aCons f g env) s (fun x => e x :: e2 u) := by
  unfold aCons
  cases s with
  | ok v => rw [show f env = .ok (e v) from h, bind_ok, show g env = .ok (e2 u) from h2]; exact rfl
  | exc c u => rw [show f env = .exc c () from h]; exact rfl
  | stk => trivial
theorem EG_bN {go : List O → Option O} {f : En → R Unit (List O)} {env : En} {t : M α} {e : α → List O} {k : α → M γ} {e' : γ → O} (h : EG (f env) t e) (ho : ∀ v, EG (ofO (go (e v))) (k v) e') : EG (bN go f env) (t.bind k) e' := h.bind ho
theorem EG_bNp {go : List O → Option O} {f : En → R Unit (List O)} {env : En} {v : α} {e : α → List O} {k : M γ} {e' : γ → O} (h : EG (f env) (.ok v) e) (ho : EG (ofO (go (e v))) k e') : EG (bN go f env) k e' := h.bindp ho
theorem EG_b2 {go : O → O → Option O} {f g : En → RP} {env : En} {t : M γ} {e : γ → O} (h : EG ((f env).bind fun x => (g env).bind fun y => ofO (go x y)) t e) : EG (b2 go f g env) t e := h
theorem callP_ok {n : Nat} {T : List O → RC} {ds : List O} {xs : List D} {t : M ρ} {ev : ρ → O} {ef : ρ → List O} (hs : allSh ds = some xs) (hT : RF n (T ds) t ev ef) : EG (callP T ds) t ev := by
  unfold callP
  rw [hs]
  dsimp only
  cases t with
  | ok v => rw [show T ds = .ok (ev v) (ef v) from hT]; exact rfl
  | exc c u => obtain ⟨fin, h, _⟩ := hT; rw [h]; exact rfl
  | stk => trivial
theorem EG_callp {n : Nat} {T : List O → RC} {f : En → R Unit (List O)} {env : En} {v : α} {e : α → List O} {xs : List D} {t : M ρ} {ev : ρ → O} {ef : ρ → List O} (h : EG (f env) (.ok v) e) (hs : allSh (e v) = some xs) (hT : RF n (T (e v)) t ev ef) : EG (bCall T f env) t ev := h.bindp (callP_ok hs hT)
theorem EG_call {n : Nat} {T : List O → RC} {f : En → R Unit (List O)} {env : En} {s : M α} {e : α → List O} {xs : α → List D} {t : α → M ρ} {ev : ρ → O} {ef : ρ → List O} (h : EG (f env) s e) (hs : ∀ v, allSh (e v) = some (xs v)) (hT : ∀ v, RF n (T (e v)) (t v) ev ef) : EG (bCall T f env) (s.bind t) ev := h.bind fun v => callP_ok (hs v) (hT v)
theorem EG_pI {f : En → RP} {env : En} {t : M Int} (h : EG (f env) t (sh dI)) : EG (pI f env) t some := by
  unfold pI
  cases t with
  | ok v => rw [show f env = .ok (sh dI v) from h]; exact rfl
  | exc c u => rw [show f env = .exc c () from h]; exact rfl
  | stk => trivial
theorem EG_bSl {f : En → RP} {l h : En → R Unit (Option Int)} {env : En} {t : M γ} {e : γ → O} (k : EG ((f env).bind fun x => (l env).bind fun a => (h env).bind fun b => ofO (oSl x a b)) t e) : EG (bSl f l h env) t e := k
theorem EG_bSlS {f : En → RP} {l h : En → R Unit (Option Int)} {env : En} {t : M γ} {e : γ → O} (k : EG ((f env).bind fun x => (l env).bind fun a => (h env).bind fun b => ofO (oSlS x a b)) t e) : EG (bSlS f l h env) t e := k
def rngT (a b : Int) : List Int := (List.range (b - a).toNat).map fun (i : Nat) => a + (i : Nat)
theorem rngD_map (a b : Int) : rngD a b = (rngT a b).map dI := by unfold rngD rngT; rw [List.map_map]; rfl
def enumT (l : List α) : List (Int × α) := l.mapIdx fun i a => ((i : Int), a)
theorem enumD_map (d : α → D) (l : List α) : enumD (l.map d) = (enumT l).map (dP2 dI d) := by
  unfold enumD enumT
  apply List.ext_getElem?
  intro j
  rw [List.getElem?_mapIdx, List.getElem?_map, List.getElem?_map, List.getElem?_mapIdx]
  cases l[j]? <;> rfl
theorem EG_jLst {f : En → RP} {env : En} {t : M (List α)} {d : α → D} (h : EG (f env) t (sh (dL d))) : EG (jSeq f env) t (List.map d) := by
  unfold jSeq
  cases t with
  | ok v => rw [show f env = .ok (sh (dL d) v) from h]; exact rfl
  | exc c u => rw [show f env = .exc c () from h]; exact rfl
  | stk => trivial
theorem EG_jTup {f : En → RP} {env : En} {t : M (List α)} {m : Bool} {d : α → D} (h : EG (f env) t (sh (dT m d))) : EG (jSeq f env) t (List.map d) := by
  unfold jSeq
  cases t with
  | ok v => rw [show f env = .ok (sh (dT m d) v) from h]; exact rfl
  | exc c u => rw [show f env = .exc c () from h]; exact rfl
  | stk => trivial
theorem EG_jX {f : En → RP} {env : En} {t : M (Bool × List α)} {d : α → D} (h : EG (f env) t (sh (dX d))) : EG (jSeq f env) (t.bind fun x => .ok x.2) (List.map d) := by
  unfold jSeq
  exact h.bind fun v => rfl
theorem EG_jEnumOf {f : En → RP} {env : En} {t : M (List α)} {d : α → D} (h : EG (jSeq f env) t (List.map d)) : EG (jEnum f env) (t.bind fun l => .ok (enumT l)) (List.map (dP2 dI d)) := by
  unfold jSeq at h
  unfold jEnum
  cases e1 : f env with
  | ok x =>
    rw [e1, bind_ok] at h
    rw [bind_ok]
    cases e2 : itD x with
    | none =>
      rw [e2] at h
      cases t with
      | ok v => cases h
      | exc c u => cases h
      | stk => trivial
    | some ds =>
      rw [e2] at h
      cases t with
      | ok v =>
        have : (R.ok ds : R Unit (List D)) = .ok (v.map d) := h
        cases this
        show ofO (some (enumD (v.map d))) = .ok _
        rw [enumD_map]; rfl
      | exc c u => cases h
      | stk => trivial
  | exc c u =>
    rw [e1, bind_exc] at h
    rw [bind_exc]
    cases t with
    | ok v => cases h
    | exc c' u' => exact h
    | stk => trivial
  | stk =>
    rw [e1, bind_stk] at h
    cases t with
    | ok v => cases h
    | exc c' u' => cases h
    | stk => trivial
theorem EG_jEnump {f : En → RP} {env : En} {l : List α} {d : α → D} (h : EG (jSeq f env) (.ok l) (List.map d)) : EG (jEnum f env) (.ok (enumT l)) (List.map (dP2 dI d)) := EG_jEnumOf h
theorem EG_jR1 {f : En → RP} {env : En} {t : M Int} (h : EG (f env) t (sh dI)) : EG (jRange1 f env) (t.bind fun j => grd (okI j) (.ok (rngT 0 j)) .stk) (List.map dI) := by
  unfold jRange1
  refine h.bind fun j => ?_
  show EG (ofO (if okI j = true then some (rngD 0 j) else none)) _ _
  cases okI j with
  | true => show ofO (some (rngD 0 j)) = _; rw [rngD_map]; rfl
  | false => trivial
theorem EG_jR1p {f : En → RP} {env : En} {j : Int} (h : EG (f env) (.ok j) (sh dI)) : EG (jRange1 f env) (grd (okI j) (.ok (rngT 0 j)) .stk) (List.map dI) := EG_jR1 h
theorem allSh_sh (d : α → D) (l : List α) : allSh (l.map (sh d)) = some (l.map d) := by
  rw [show l.map (sh d) = (l.map d).map O.sh from by rw [List.map_map]; rfl, allSh_map]
theorem lcP_ok {tgt : D → En → Option En} {tt : En → RB} {elt : En → RP} {env : En} {d : α → D} {p : α → M Bool} {f : α → M β} {e : β → O} (hb : ∀ a, ∃ e1, tgt (d a) env = some e1 ∧ EG (tt e1) (p a) id ∧ EG (elt e1) (f a) e) :
    ∀ (l : List α) (acc : List O), EG (lcP tgt tt elt env (l.map d) acc) (lcM p f l) (fun r => .lst (acc ++ r.map e))
  | [], acc => by
    show _ = R.ok (O.lst (acc ++ []))
    rw [List.append_nil]; rfl
  | a :: l, acc => by
    obtain ⟨e1, h1, h2, h3⟩ := hb a
    rw [List.map_cons]
    unfold lcP
    rw [h1]
    dsimp only
    unfold lcM
    cases hp : p a with
    | ok b =>
      rw [hp] at h2
      rw [show tt e1 = .ok b from h2]
      cases b with
      | false => exact lcP_ok hb l acc
      | true =>
        dsimp only
        cases hf : f a with
        | ok x =>
          rw [hf] at h3
          rw [show elt e1 = .ok (e x) from h3]
          dsimp only
          have ih := lcP_ok hb l (acc ++ [e x])
          cases hl : lcM p f l with
          | ok r =>
            rw [hl] at ih
            rw [show lcP tgt tt elt env (l.map d) (acc ++ [e x]) = .ok (.lst (acc ++ [e x] ++ r.map e)) from ih]
            show R.ok _ = R.ok _
            rw [List.append_assoc]; rfl
          | exc c u => trivial
          | stk => trivial
        | exc c u => trivial
        | stk => trivial
    | exc c u => trivial
    | stk => trivial
theorem EG_lcm {vs : List Nat} {it : En → R Unit (List D)} {tgt : D → En → Option En} {tt : En → RB} {elt : En → RP} {env : En} {t : M (List α)} {d : α → D} {p : α → M Bool} {f : α → M β} {e : β → O} (hi : EG (it env) t (List.map d))
    (hb : ∀ a, ∃ e1, tgt (d a) (wipeE env vs) = some e1 ∧ EG (tt e1) (p a) id ∧ EG (elt e1) (f a) e) : EG (bLc vs it tgt tt elt env) (t.bind fun l => grd (szOk l.length) (lcM p f l) .stk) (oL e) := by
  unfold bLc
  refine hi.bind fun l => ?_
  rw [List.length_map]
  have := lcP_ok hb l []
  simp only [List.nil_append] at this
  cases szOk l.length with
  | true => exact this
  | false => trivial
theorem EG_lcmp {vs : List Nat} {it : En → R Unit (List D)} {tgt : D → En → Option En} {tt : En → RB} {elt : En → RP} {env : En} {l : List α} {d : α → D} {p : α → M Bool} {f : α → M β} {e : β → O} (hi : EG (it env) (.ok l) (List.map d))
    (hb : ∀ a, ∃ e1, tgt (d a) (wipeE env vs) = some e1 ∧ EG (tt e1) (p a) id ∧ EG (elt e1) (f a) e) : EG (bLc vs it tgt tt elt env) (grd (szOk l.length) (lcM p f l) .stk) (oL e) := EG_lcm hi hb
theorem lcM_pure (p : α → Bool) (f : α → β) : ∀ l : List α, lcM (fun a => .ok (p a)) (fun a => .ok (f a)) l = .ok ((l.filter p).map f)
  | [] => rfl
  | a :: l => by
    unfold lcM
    dsimp only
    cases h : p a with
    | true =>
      dsimp only
      rw [lcM_pure p f l]
      dsimp only
      rw [List.filter_cons_of_pos h]; rfl
    | false =>
      dsimp only
      rw [lcM_pure p f l, List.filter_cons_of_neg (by rw [h]; exact Bool.false_ne_true)]
theorem EG_lcp {vs : List Nat} {it : En → R Unit (List D)} {tgt : D → En → Option En} {tt : En → RB} {elt : En → RP} {env : En} {l : List α} {d : α → D} {p : α → Bool} {f : α → β} {e : β → O} (hi : EG (it env) (.ok l) (List.map d))
    (hb : ∀ a, ∃ e1, tgt (d a) (wipeE env vs) = some e1 ∧ EG (tt e1) (.ok (p a)) id ∧ EG (elt e1) (.ok (f a)) e) : EG (bLc vs it tgt tt elt env) (grd (szOk l.length) (.ok ((l.filter p).map f)) .stk) (oL e) := by
  have := EG_lcm hi hb
  rw [← lcM_pure p f l]
  exact this
theorem EG_lcy {vs : List Nat} {it : En → R Unit (List D)} {tgt : D → En → Option En} {elt : En → RP} {env : En} {l : List α} {d : α → D} {f : α → β} {e : β → O} (hi : EG (it env) (.ok l) (List.map d))
    (hb : ∀ a, ∃ e1, tgt (d a) (wipeE env vs) = some e1 ∧ EG (elt e1) (.ok (f a)) e) : EG (bLc vs it tgt bYes elt env) (grd (szOk l.length) (.ok (l.map f)) .stk) (oL e) := by
  have := EG_lcp (p := fun _ => true) hi (fun a => let ⟨e1, h1, h2⟩ := hb a; ⟨e1, h1, (rfl : bYes e1 = .ok true), h2⟩)
  rw [(List.filter_eq_self.mpr fun _ _ => rfl : l.filter (fun _ => true) = l)] at this
  exact this
theorem lcE_ok {vs : List Nat} {tgt : D → En → Option En} {elt : En → RE} {d : α → D} {f : α → σ → M (β × σ)} {e : β → O} {Es : σ → En} (hb : ∀ a s, ∃ e1 E, tgt (d a) (Es s) = some e1 ∧ EX (elt e1) (f a s) (fun v => e v.1) E ∧ ∀ v, wipeE (E v) vs = Es v.2) :
    ∀ (l : List α) (acc : List O) (s : σ) (r : List β) (s' : σ), lcX f l s = .ok (r, s') → lcE vs tgt uYes elt (l.map d) acc (Es s) = .ok (acc ++ r.map e, Es s')
  | [], acc, s, r, s', h => by
    unfold lcX at h
    cases h
    show R.ok (acc, Es s) = R.ok (acc ++ [], Es s)
    rw [List.append_nil]
  | a :: l, acc, s, r, s', h => by
    obtain ⟨e1, E, h1, h2, h3⟩ := hb a s
    unfold lcX at h
    rw [List.map_cons]
    unfold lcE
    rw [h1]
    dsimp only
    show (match elt e1 with
      | .ok (x, e3) => lcE vs tgt uYes elt (l.map d) (acc ++ [x]) (wipeE e3 vs)
      | _ => .stk) = _
    cases hf : f a s with
    | ok v =>
      obtain ⟨x, s1⟩ := v
      rw [hf] at h2 h
      dsimp only at h
      rw [show elt e1 = .ok (e x, E (x, s1)) from h2]
      dsimp only
      rw [h3]
      cases hl : lcX f l s1 with
      | ok q =>
        obtain ⟨r1, s2⟩ := q
        rw [hl] at h
        dsimp only at h
        cases h
        rw [lcE_ok hb l (acc ++ [e x]) s1 r1 _ hl, List.append_assoc]; rfl
      | exc c u => rw [hl] at h; cases h
      | stk => rw [hl] at h; cases h
    | exc c u => rw [hf] at h; cases h
    | stk => rw [hf] at h; cases h
theorem EX_lc {vs : List Nat} {it : En → R Unit (List D)} {tgt : D → En → Option En} {elt : En → RE} {env : En} {l : List α} {d : α → D} {f : α → σ → M (β × σ)} {e : β → O} {Es Ef : σ → En} {s0 : σ} (hi : EG (it env) (.ok l) (List.map d)) (h0 : wipeE env vs = Es s0)
    (hb : ∀ a s, ∃ e1 E, tgt (d a) (Es s) = some e1 ∧ EX (elt e1) (f a s) (fun v => e v.1) E ∧ ∀ v, wipeE (E v) vs = Es v.2) (hf : ∀ s, restE env (Es s) vs = Ef s) :
    EX (eLc vs (iJ it) tgt uYes elt env) (grd (szOk l.length) (lcX f l s0) .stk) (fun v => oL e v.1) (fun v => Ef v.2) := by
  unfold eLc iJ
  rw [show it env = .ok (l.map d) from hi]
  dsimp only
  rw [bind_ok]
  dsimp only
  rw [List.length_map, h0]
  cases szOk l.length with
  | false => trivial
  | true =>
    rw [if_pos rfl]
    show EX _ (lcX f l s0) _ _
    cases hl : lcX f l s0 with
    | ok q =>
      obtain ⟨r, s'⟩ := q
      have := lcE_ok hb l [] s0 r s' hl
      rw [List.nil_append] at this
      rw [this]
      show R.ok _ = R.ok _
      dsimp only
      rw [hf]
    | exc c u =>
      exfalso
      have : ∀ (l : List α) (s : σ), lcX f l s ≠ .exc c u := by
        intro l
        induction l with
        | nil => intro s h; cases h
        | cons a l ih =>
          intro s h
          unfold lcX at h
          split at h
          · split at h
            · cases h
            · cases h
          · cases h
      exact this l s0 hl
    | stk => trivial
end
end FD.Ty


set_option Elab.async false
set_option linter.all false
set_option maxRecDepth 100000
namespace FD.Ty
open PySem L2 FD
section
variable {α β γ δ ρ κ σ τ : Type} {F : ρ → O → En → Prop} {L : κ → En → Prop} {B : σ → En → Prop} {B' : τ → En → Prop}
theorem SR_nil {env : En} {s : σ} (h : B s env) : SR (sNil env) (.nx s : TR ρ κ σ) F L B := ⟨env, rfl, h⟩
theorem SR_seq {g h : En → RS} {env : En} {t : TR ρ κ σ} {K : σ → TR ρ κ τ} (h1 : SR (g env) t F L B) (k : ∀ s e, B s e → SR (h e) (K s) F L B') : SR (sCons g h env) (sq t K) F L B' := by
  unfold sCons
  cases t with
  | nx s => obtain ⟨e, h2, h3⟩ := h1; rw [h2]; exact k s e h3
  | rt v => obtain ⟨d, e, h2, h3⟩ := h1; rw [h2]; exact ⟨d, e, rfl, h3⟩
  | bk s => obtain ⟨e, h2, h3⟩ := h1; rw [h2]; exact ⟨e, rfl, h3⟩
  | ct s => obtain ⟨e, h2, h3⟩ := h1; rw [h2]; exact ⟨e, rfl, h3⟩
  | exc c => obtain ⟨e, h2⟩ := h1; rw [h2]; exact ⟨e, rfl⟩
  | stk => trivial
theorem SR_setp {i : Nat} {f : En → RE} {rest : En → RS} {env : En} {v : α} {e : α → O} {E : α → En} {K : TR ρ κ σ} (h : EX (f env) (.ok v) e E) (k : SR (rest ((E v).set i (some (e v)))) K F L B) : SR (sCons (sSet i f) rest env) K F L B := by
  unfold sCons sSet
  rw [show f env = .ok (e v, E v) from h]; exact k
theorem SR_set {i : Nat} {f : En → RE} {rest : En → RS} {env : En} {t : M α} {e : α → O} {E : α → En} {K : α → TR ρ κ σ} (h : EX (f env) t e E) (k : ∀ v, SR (rest ((E v).set i (some (e v)))) (K v) F L B) : SR (sCons (sSet i f) rest env) (thn t K) F L B := by
  unfold sCons sSet
  cases t with
  | ok v => rw [show f env = .ok (e v, E v) from h]; exact k v
  | exc c u => obtain ⟨e1, h⟩ := h; rw [h]; exact ⟨e1, rfl⟩
  | stk => trivial
theorem SR_expr {f : En → RE} {rest : En → RS} {env : En} {t : M α} {e : α → O} {E : α → En} {K : α → TR ρ κ σ} (h : EX (f env) t e E) (k : ∀ v, SR (rest (E v)) (K v) F L B) : SR (sCons (sExpr f) rest env) (thn t K) F L B := by
  unfold sCons sExpr
  cases t with
  | ok v => rw [show f env = .ok (e v, E v) from h]; exact k v
  | exc c u => obtain ⟨e1, h⟩ := h; rw [h]; exact ⟨e1, rfl⟩
  | stk => trivial
theorem SR_retp {f : En → RE} {rest : En → RS} {env : En} {v : α} {e : α → O} {E : α → En} {w : ρ} (h : EX (f env) (.ok v) e E) (hF : F w (e v) (E v)) : SR (sCons (sRet f) rest env) (.rt w : TR ρ κ σ) F L B := by
  unfold sCons sRet
  rw [show f env = .ok (e v, E v) from h]; exact ⟨_, _, rfl, hF⟩
theorem SR_ret {f : En → RE} {rest : En → RS} {env : En} {t : M α} {e : α → O} {E : α → En} {w : α → ρ} (h : EX (f env) t e E) (hF : ∀ v, F (w v) (e v) (E v)) : SR (sCons (sRet f) rest env) (thn t fun v => .rt (w v) : TR ρ κ σ) F L B := by
  unfold sCons sRet
  cases t with
  | ok v => rw [show f env = .ok (e v, E v) from h]; exact ⟨_, _, rfl, hF v⟩
  | exc c u => obtain ⟨e1, h⟩ := h; rw [h]; exact ⟨e1, rfl⟩
  | stk => trivial
theorem if_ok {tt : En → RB} {g h : En → RS} {env : En} {t : M Bool} {x y : TR ρ κ σ} (hc : EG (tt env) t id) (h1 : SR (g env) x F L B) (h2 : SR (h env) y F L B) : SR (sIf (uT tt) g h env) (thn t fun b => if b then x else y) F L B := by
  unfold sIf uT
  cases t with
  | ok b =>
    rw [show tt env = .ok b from hc]
    cases b with
    | true => exact h1
    | false => exact h2
  | exc c u => rw [show tt env = .exc c () from hc]; exact ⟨env, rfl⟩
  | stk => trivial
theorem SR_if {tt : En → RB} {g h rest : En → RS} {env : En} {t : M Bool} {x y : TR ρ κ σ} {K : σ → TR ρ κ τ} (hc : EG (tt env) t id) (h1 : SR (g env) x F L B) (h2 : SR (h env) y F L B) (k : ∀ s e, B s e → SR (rest e) (K s) F L B') :
    SR (sCons (sIf (uT tt) g h) rest env) (sq (thn t fun b => if b then x else y) K) F L B' := SR_seq (if_ok hc h1 h2) k
theorem SR_ifp {tt : En → RB} {g h rest : En → RS} {env : En} {b : Bool} {x y : TR ρ κ σ} {K : σ → TR ρ κ τ} (hc : EG (tt env) (.ok b) id) (h1 : SR (g env) x F L B) (h2 : SR (h env) y F L B) (k : ∀ s e, B s e → SR (rest e) (K s) F L B') :
    SR (sCons (sIf (uT tt) g h) rest env) (sq (if b then x else y) K) F L B' := SR_if hc h1 h2 k
theorem SR_ifl {tt : En → RB} {g rest : En → RS} {env : En} {t : M Bool} {x : TR ρ κ Empty} {K : TR ρ κ σ} (hc : EG (tt env) t id) (h1 : SR (g env) x F L (fun _ _ => True)) (k : SR (rest env) K F L B) :
    SR (sCons (sIf (uT tt) g sNil) rest env) (thn t fun b => if b then sq x (fun z => z.elim) else K) F L B := by
  unfold sCons sIf uT
  cases t with
  | ok b =>
    rw [show tt env = .ok b from hc]
    cases b with
    | true =>
      show SR (match g env with
        | .nx e => rest e
        | r => r) (sq x fun z => z.elim) F L B
      cases x with
      | nx s => exact s.elim
      | rt v => obtain ⟨d, e, h2, h3⟩ := h1; rw [h2]; exact ⟨d, e, rfl, h3⟩
      | bk s => obtain ⟨e, h2, h3⟩ := h1; rw [h2]; exact ⟨e, rfl, h3⟩
      | ct s => obtain ⟨e, h2, h3⟩ := h1; rw [h2]; exact ⟨e, rfl, h3⟩
      | exc c => obtain ⟨e, h2⟩ := h1; rw [h2]; exact ⟨e, rfl⟩
      | stk => trivial
    | false => exact k
  | exc c u => rw [show tt env = .exc c () from hc]; exact ⟨env, rfl⟩
  | stk => trivial
theorem SR_iflp {tt : En → RB} {g rest : En → RS} {env : En} {b : Bool} {x : TR ρ κ Empty} {K : TR ρ κ σ} (hc : EG (tt env) (.ok b) id) (h1 : SR (g env) x F L (fun _ _ => True)) (k : SR (rest env) K F L B) :
    SR (sCons (sIf (uT tt) g sNil) rest env) (if b then sq x (fun z => z.elim) else K) F L B := SR_ifl hc h1 k
theorem SR_ifr {tt : En → RB} {f : En → RE} {rest r2 : En → RS} {env : En} {t : M Bool} {v : α} {e : α → O} {E : α → En} {w : ρ} {K : TR ρ κ σ} (hc : EG (tt env) t id) (h : EX (f env) (.ok v) e E) (hF : F w (e v) (E v)) (k : SR (rest env) K F L B) :
    SR (sCons (sIf (uT tt) (sCons (sRet f) r2) sNil) rest env) (thn t fun b => if b then .rt w else K) F L B := SR_ifl (x := .rt w) hc (SR_retp h hF) k
theorem SR_ifrp {tt : En → RB} {f : En → RE} {rest r2 : En → RS} {env : En} {b : Bool} {v : α} {e : α → O} {E : α → En} {w : ρ} {K : TR ρ κ σ} (hc : EG (tt env) (.ok b) id) (h : EX (f env) (.ok v) e E) (hF : F w (e v) (E v)) (k : SR (rest env) K F L B) :
    SR (sCons (sIf (uT tt) (sCons (sRet f) r2) sNil) rest env) (if b then .rt w else K) F L B := SR_ifr hc h hF k
theorem for_ok {tgt : D → En → Option En} {body : En → RS} {d : α → D} {f : α → σ → TR ρ σ σ} (hb : ∀ a s e, B s e → ∃ e1, tgt (d a) e = some e1 ∧ SR (body e1) (f a s) F B B) :
    ∀ (l : List α) (s : σ) (env : En), B s env → SR (forL tgt body (l.map d) env) (forT f l s : TR ρ κ σ) F L B
  | [], s, env, h => ⟨env, rfl, h⟩
  | a :: l, s, env, h => by
    obtain ⟨e1, h1, h2⟩ := hb a s env h
    rw [List.map_cons]
    unfold forL forT
    rw [h1]
    dsimp only
    cases q : f a s with
    | nx s => rw [q] at h2; obtain ⟨e, h3, h4⟩ := h2; rw [h3]; exact for_ok hb l s e h4
    | ct s => rw [q] at h2; obtain ⟨e, h3, h4⟩ := h2; rw [h3]; exact for_ok hb l s e h4
    | bk s => rw [q] at h2; obtain ⟨e, h3, h4⟩ := h2; rw [h3]; exact ⟨e, rfl, h4⟩
    | rt v => rw [q] at h2; obtain ⟨x, e, h3, h4⟩ := h2; rw [h3]; exact ⟨x, e, rfl, h4⟩
    | exc c => rw [q] at h2; obtain ⟨e, h3⟩ := h2; rw [h3]; exact ⟨e, rfl⟩
    | stk => trivial
theorem forO_ok {i : Nat} {body : En → RS} {eo : α → O} {f : α → σ → TR ρ σ σ} (hb : ∀ a s e, B s e → SR (body (e.set i (some (eo a)))) (f a s) F B B) :
    ∀ (l : List α) (s : σ) (env : En), B s env → SR (forO i body (l.map eo) env) (forT f l s : TR ρ κ σ) F L B
  | [], s, env, h => ⟨env, rfl, h⟩
  | a :: l, s, env, h => by
    have h2 := hb a s env h
    rw [List.map_cons]
    unfold forO forT
    cases q : f a s with
    | nx s => rw [q] at h2; obtain ⟨e, h3, h4⟩ := h2; rw [h3]; exact forO_ok hb l s e h4
    | ct s => rw [q] at h2; obtain ⟨e, h3, h4⟩ := h2; rw [h3]; exact forO_ok hb l s e h4
    | bk s => rw [q] at h2; obtain ⟨e, h3, h4⟩ := h2; rw [h3]; exact ⟨e, rfl, h4⟩
    | rt v => rw [q] at h2; obtain ⟨x, e, h3, h4⟩ := h2; rw [h3]; exact ⟨x, e, rfl, h4⟩
    | exc c => rw [q] at h2; obtain ⟨e, h3⟩ := h2; rw [h3]; exact ⟨e, rfl⟩
    | stk => trivial
theorem SR_forp {j : En → R Unit (List D)} {tgt : D → En → Option En} {body rest : En → RS} {env : En} {l : List α} {d : α → D} {f : α → σ → TR ρ σ σ} {s0 : σ} {K : σ → TR ρ κ τ} (B : σ → En → Prop) (hi : EG (j env) (.ok l) (List.map d)) (h0 : B s0 env)
    (hb : ∀ a s e, B s e → ∃ e1, tgt (d a) e = some e1 ∧ SR (body e1) (f a s) F B B) (k : ∀ s e, B s e → SR (rest e) (K s) F L B') : SR (sCons (sFor (iJ j) tgt body) rest env) (sq (forT f l s0) K) F L B' := by
  refine SR_seq (B := B) ?_ k
  unfold sFor iJ
  rw [show j env = .ok (l.map d) from hi]
  exact for_ok hb l s0 env h0
theorem SR_for {j : En → R Unit (List D)} {tgt : D → En → Option En} {body rest : En → RS} {env : En} {t : M (List α)} {d : α → D} {f : α → σ → TR ρ σ σ} {s0 : σ} {K : σ → TR ρ κ τ} (B : σ → En → Prop) (hi : EG (j env) t (List.map d)) (h0 : B s0 env)
    (hb : ∀ a s e, B s e → ∃ e1, tgt (d a) e = some e1 ∧ SR (body e1) (f a s) F B B) (k : ∀ s e, B s e → SR (rest e) (K s) F L B') : SR (sCons (sFor (iJ j) tgt body) rest env) (sq (thn t fun l => forT f l s0) K) F L B' := by
  refine SR_seq (B := B) ?_ k
  unfold sFor iJ
  cases t with
  | ok l => rw [show j env = .ok (l.map d) from hi]; exact for_ok hb l s0 env h0
  | exc c u => rw [show j env = .exc c () from hi]; exact ⟨env, rfl⟩
  | stk => trivial
theorem SR_forO {ff : En → RE} {i : Nat} {body rest : En → RS} {env : En} {t : M γ} {e' : γ → O} {E : γ → En} {xs : γ → List α} {eo : α → O} {f : α → σ → TR ρ σ σ} {s0 : γ → σ} {K : σ → TR ρ κ τ} (B : σ → En → Prop) (hi : EX (ff env) t e' E) (he : ∀ v, e' v = oL eo (xs v)) (h0 : ∀ v, B (s0 v) (E v))
    (hb : ∀ a s e, B s e → SR (body (e.set i (some (eo a)))) (f a s) F B B) (k : ∀ s e, B s e → SR (rest e) (K s) F L B') : SR (sCons (sForO ff i body) rest env) (sq (thn t fun v => forT f (xs v) (s0 v)) K) F L B' := by
  refine SR_seq (B := B) ?_ k
  unfold sForO
  cases t with
  | ok v =>
    rw [show ff env = .ok (e' v, E v) from hi, he]
    exact forO_ok hb (xs v) (s0 v) (E v) (h0 v)
  | exc c u => obtain ⟨e1, h⟩ := hi; rw [h]; exact ⟨e1, rfl⟩
  | stk => trivial
theorem whl_ok {tt : En → RB} {body : En → RS} {c : σ → M Bool} {f : σ → TR ρ σ σ} (hc : ∀ s e, B s e → EG (tt e) (c s) id) (hb : ∀ s e, B s e → SR (body e) (f s) F B B) : ∀ (n : Nat) (s : σ) (env : En), B s env → SR (whl (uT tt) body n env) (whT c f n s : TR ρ κ σ) F L B
  | 0, s, env, h => trivial
  | n + 1, s, env, h => by
    have h1 := hc s env h
    have h2 := hb s env h
    unfold whl whT uT
    cases q : c s with
    | ok b =>
      rw [q] at h1
      rw [show tt env = .ok b from h1]
      cases b with
      | false => exact ⟨env, rfl, h⟩
      | true =>
        dsimp only
        cases q : f s with
        | nx s => rw [q] at h2; obtain ⟨e, h3, h4⟩ := h2; rw [h3]; exact whl_ok hc hb n s e h4
        | ct s => rw [q] at h2; obtain ⟨e, h3, h4⟩ := h2; rw [h3]; exact whl_ok hc hb n s e h4
        | bk s => rw [q] at h2; obtain ⟨e, h3, h4⟩ := h2; rw [h3]; exact ⟨e, rfl, h4⟩
        | rt v => rw [q] at h2; obtain ⟨x, e, h3, h4⟩ := h2; rw [h3]; exact ⟨x, e, rfl, h4⟩
        | exc c => rw [q] at h2; obtain ⟨e, h3⟩ := h2; rw [h3]; exact ⟨e, rfl⟩
        | stk => trivial
    | exc c u => rw [q] at h1; rw [show tt env = .exc c () from h1]; exact ⟨env, rfl⟩
    | stk => trivial
theorem SR_whl {tt : En → RB} {body rest : En → RS} {env : En} {c : σ → M Bool} {f : σ → TR ρ σ σ} {n : Nat} {s0 : σ} {K : σ → TR ρ κ τ} (B : σ → En → Prop) (h0 : B s0 env) (hc : ∀ s e, B s e → EG (tt e) (c s) id) (hb : ∀ s e, B s e → SR (body e) (f s) F B B)
    (k : ∀ s e, B s e → SR (rest e) (K s) F L B') : SR (sCons (whl (uT tt) body n) rest env) (sq (whT c f n s0) K) F L B' := SR_seq (whl_ok hc hb n s0 env h0) k
theorem SR_parp {i j : Nat} {f : En → R En (List O × En)} {rest : En → RS} {env : En} {v : α} {e : α → List O} {E : α → En} {x y : O} {K : TR ρ κ σ} (h : EX (f env) (.ok v) e E) (he : e v = [x, y]) (k : SR (rest (((E v).set i (some x)).set j (some y))) K F L B) : SR (sCons (sPar i j f) rest env) K F L B := by
  unfold sCons sPar
  rw [show f env = .ok (e v, E v) from h, he]; exact k
theorem SR_par {i j : Nat} {f : En → R En (List O × En)} {rest : En → RS} {env : En} {t : M α} {e : α → List O} {E : α → En} {x y : α → O} {K : α → TR ρ κ σ} (h : EX (f env) t e E) (he : ∀ v, e v = [x v, y v]) (k : ∀ v, SR (rest (((E v).set i (some (x v))).set j (some (y v)))) (K v) F L B) : SR (sCons (sPar i j f) rest env) (thn t K) F L B := by
  unfold sCons sPar
  cases t with
  | ok v => rw [show f env = .ok (e v, E v) from h, he]; exact k v
  | exc c u => obtain ⟨e1, h⟩ := h; rw [h]; exact ⟨e1, rfl⟩
  | stk => trivial
noncomputable def appM (l : List α) (x : α) : M (List α) := grd (szOk (l.length + 1)) (.ok (l ++ [x])) .stk
noncomputable def extM (l r : List α) : M (List α) := grd (szOk (l.length + r.length)) (.ok (l ++ r)) .stk
def setM (l : List α) (j : Int) (x : α) : M (List α) := match ixN l.length j with
  | some k => .ok (l.set k x)
  | none => .stk
def remM (l : List Int) (x : Int) : M (List Int) := grd (l.contains x) (.ok (l.erase x)) .stk
theorem lstG_oL {env : En} {i : Nat} {l : List α} {e : α → O} (h : gt env i = some (oL e l)) : lstG env i = some (l.map e) := by
  unfold lstG; rw [h]
theorem EX_app {i : Nat} {f : En → RE} {env : En} {xs0 : List O} {v : γ} {ev : γ → O} {E : γ → En} {x : α} {l : List α} {e : α → O} (h0 : lstG env i = some xs0) (h : EX (f env) (.ok v) ev E) (hx : ev v = e x) (hl : gt (E v) i = some (oL e l)) :
    EX (eApp i f env) (appM l x) (fun _ => .sh .non) (fun l' => (E v).set i (some (oL e l'))) := by
  unfold eApp appM
  rw [h0, show f env = .ok (ev v, E v) from h]
  dsimp only
  rw [bind_ok]
  dsimp only
  rw [lstG_oL hl]
  dsimp only
  rw [List.length_map, hx]
  cases szOk (l.length + 1) with
  | true =>
    show R.ok _ = R.ok _
    dsimp only [oL]
    rw [List.map_append]; rfl
  | false => trivial
theorem EX_rem {i : Nat} {f : En → RP} {env : En} {x : Int} {l : List Int} (h : EG (f env) (.ok x) (sh dI)) (hl : gt env i = some (oL (sh dI) l)) : EX (eRem i f env) (remM l x) (fun _ => .sh .non) (fun l' => env.set i (some (oL (sh dI) l'))) := by
  unfold eRem remM
  have h1 : intsO (l.map (sh dI)) = some l := intsO_ints l
  rw [lstG_oL hl, Option.bind_some, h1]
  dsimp only
  rw [show f env = .ok (sh dI x) from h]
  show EX (if l.contains x = true then _ else _) _ _ _
  cases l.contains x with
  | true => exact rfl
  | false => trivial
theorem SR_setIx {i : Nat} {f : En → RE} {g : En → RP} {rest : En → RS} {env : En} {v : γ} {ev : γ → O} {E : γ → En} {x : α} {j : Int} {l : List α} {e : α → O} {K : List α → TR ρ κ σ} (h : EX (f env) (.ok v) ev E) (hx : ev v = e x) (hj : EG (g (E v)) (.ok j) (sh dI)) (hl : gt (E v) i = some (oL e l))
    (k : ∀ l', SR (rest ((E v).set i (some (oL e l')))) (K l') F L B) : SR (sCons (sSetIx i f g) rest env) (thn (setM l j x) K) F L B := by
  unfold sCons sSetIx setM
  rw [show f env = .ok (ev v, E v) from h]
  dsimp only
  rw [lstG_oL hl]
  dsimp only
  rw [show g (E v) = .ok (sh dI j) from hj]
  dsimp only
  rw [show asI (sh dI j) = some j from rfl, Option.bind_some, List.length_map]
  cases ixN l.length j with
  | none => trivial
  | some q =>
    dsimp only
    have := k (l.set q x)
    simp only [oL] at this
    rw [List.map_set] at this
    rw [hx]
    exact this
theorem SR_setIxj {i : Nat} {f : En → RE} {g : En → RP} {rest : En → RS} {env : En} {s : M γ} {j : γ → Int} {ev : γ → O} {E : γ → En} {x : γ → α} {l : γ → List α} {e : α → O} {K : γ → List α → TR ρ κ σ} (h : EX (f env) s ev E) (hx : ∀ v, ev v = e (x v)) (hj : ∀ v, EG (g (E v)) (.ok (j v)) (sh dI)) (hl : ∀ v, gt (E v) i = some (oL e (l v)))
    (k : ∀ v l', SR (rest ((E v).set i (some (oL e l')))) (K v l') F L B) : SR (sCons (sSetIx i f g) rest env) (thn s fun v => thn (setM (l v) (j v) (x v)) (K v)) F L B := by
  cases s with
  | stk => trivial
  | exc c u =>
    obtain ⟨e1, h⟩ := h
    unfold sCons sSetIx
    rw [h]; exact ⟨e1, rfl⟩
  | ok v => exact SR_setIx h (hx v) (hj v) (hl v) (k v)
theorem SR_ext {i : Nat} {f : En → RE} {rest : En → RS} {env : En} {xs0 : List O} {s : M γ} {ev : γ → O} {E : γ → En} {l r : γ → List α} {d : α → D} {K : γ → List α → TR ρ κ σ} (h0 : lstG env i = some xs0) (h : EX (f env) s ev E) (hr : ∀ v, lstO (ev v) = some ((r v).map d)) (hl : ∀ v, gt (E v) i = some (oL (sh d) (l v)))
    (k : ∀ v l', SR (rest ((E v).set i (some (oL (sh d) l')))) (K v l') F L B) : SR (sCons (sExt i f) rest env) (thn s fun v => thn (extM (l v) (r v)) (K v)) F L B := by
  unfold sCons sExt
  rw [h0]
  dsimp only
  cases s with
  | stk => trivial
  | exc c u => obtain ⟨e1, h⟩ := h; rw [h]; exact ⟨e1, rfl⟩
  | ok v =>
    rw [show f env = .ok (ev v, E v) from h]
    dsimp only
    rw [lstG_oL (hl v), Option.bind_some, allSh_sh]
    dsimp only
    rw [hr v]
    dsimp only
    rw [List.length_map, List.length_map]
    show SR (match (if szOk ((l v).length + (r v).length) = true then RS.nx ((E v).set i (some (.lst (((l v).map d ++ (r v).map d).map O.sh)))) else .stk) with
      | .nx e => rest e
      | r => r) (thn (grd (szOk ((l v).length + (r v).length)) (.ok (l v ++ r v)) .stk) (K v)) F L B
    cases szOk ((l v).length + (r v).length) with
    | false => trivial
    | true =>
      have := k v (l v ++ r v)
      rw [show oL (sh d) (l v ++ r v) = .lst (((l v).map d ++ (r v).map d).map O.sh) from by
        show O.lst ((l v ++ r v).map (sh d)) = _
        rw [← List.map_append, List.map_map]; rfl] at this
      exact this
theorem RF_fn {n m : Nat} {g : En → RS} {ds : List O} {t : TR ρ κ ρ} {ev : ρ → O} (hl : ds.length = n) (h : SR (g (fnE m ds)) t (fun v d _ => d = ev v) L (fun v _ => ev v = .sh .non)) : RF 0 (fnT n m [] g ds) (finT t) ev (fun _ => []) := by
  unfold fnT tbl
  rw [if_pos hl]
  cases t with
  | nx s => obtain ⟨e, h1, h2⟩ := h; rw [h1]; show RC.ok _ _ = RC.ok _ _; rw [← h2]
  | rt v => obtain ⟨d, e, h1, h2⟩ := h; rw [h1, h2]; exact rfl
  | bk s => trivial
  | ct s => trivial
  | exc c => obtain ⟨e, h1⟩ := h; rw [h1]; exact ⟨[], rfl, rfl⟩
  | stk => trivial
@[simp] def finX {ρ κ : Type} (t : TR ρ κ ρ) : M ρ := match t with
  | .nx s => .ok s
  | .rt v => .ok v
  | _ => .stk
theorem RF_fnX {n m k : Nat} {pr : List Nat} {g : En → RS} {ds : List O} {t : TR ρ κ ρ} {ev : ρ → O} {ef : ρ → List O} (hl : ds.length = n) (h : SR (g (fnE m ds)) t (fun v d e => d = ev v ∧ finL pr e = some (ef v)) L (fun v e => ev v = .sh .non ∧ finL pr e = some (ef v))) : RF k (fnT n m pr g ds) (finX t) ev ef := by
  unfold fnT tbl
  rw [if_pos hl]
  cases t with
  | nx s => obtain ⟨e, h1, h2, h3⟩ := h; rw [h1]; dsimp only; rw [h3]; show RC.ok _ _ = RC.ok _ _; rw [← h2]
  | rt v => obtain ⟨d, e, h1, h2, h3⟩ := h; rw [h1]; dsimp only; rw [h3, h2]; exact rfl
  | bk s => trivial
  | ct s => trivial
  | exc c => trivial
  | stk => trivial
end
end FD.Ty


set_option Elab.async false
set_option linter.all false
set_option maxRecDepth 100000
namespace FD.Ty
open PySem L2 FD
section
variable {α β γ : Type}
noncomputable def mulM (a b : Int) : M Int := grd (cMul a b) (.ok (a * b)) .stk
noncomputable def divM (a b : Int) : M Int := grd (okJ b) (.ok (a / b)) .stk
def modM (a b : Int) : M Int := grd (decide (0 < b)) (.ok (a % b)) .stk
theorem op_mul (a b : Int) : EG (ofO (oStar (sh dI a) (sh dI b))) (mulM a b) (sh dI) := by
  unfold oStar orE mulM
  show EG (ofO (match (if cMul a b = true then some (O.sh (.int (a * b))) else none) with
    | some z => some z
    | none => repL (sh dI a) (sh dI b))) _ _
  cases cMul a b with
  | true => exact rfl
  | false => trivial
theorem op_mulc (a : Int) {b : Int} (h : okI b = true) : EG (ofO (oStar (sh dI a) (sh dI b))) (.ok (a * b)) (sh dI) := by
  have := op_mul a b
  unfold mulM at this
  rwa [show cMul a b = true by unfold cMul; rw [h, Bool.or_true]] at this
theorem op_div (a b : Int) : EG (ofO (oDiv (sh dI a) (sh dI b))) (divM a b) (sh dI) := by
  unfold divM
  show EG (ofO (if okJ b = true then some (O.sh (.int (a / b))) else none)) _ _
  cases okJ b with
  | true => exact rfl
  | false => trivial
theorem op_divc (a : Int) {b : Int} (h : okJ b = true) : EG (ofO (oDiv (sh dI a) (sh dI b))) (.ok (a / b)) (sh dI) := by
  have := op_div a b
  unfold divM at this
  rwa [h] at this
theorem op_mod (a b : Int) : EG (ofO (oMod (sh dI a) (sh dI b))) (modM a b) (sh dI) := by
  unfold modM
  show EG (ofO (if decide (0 < b) = true then some (O.sh (.int (a % b))) else none)) _ _
  cases decide (0 < b) with
  | true => exact rfl
  | false => trivial
theorem op_modc (a : Int) {b : Int} (h : 0 < b) : EG (ofO (oMod (sh dI a) (sh dI b))) (.ok (a % b)) (sh dI) := by
  have := op_mod a b
  unfold modM at this
  rwa [decide_eq_true h] at this
structure EqD [DecidableEq α] (n : Nat) (d : α → D) : Prop where
  ok : ∀ a, okD n (d a) = true
  eq : ∀ a b, deq (d a) (d b) = decide (a = b)
theorem EqD_int {n : Nat} : EqD n dI := ⟨fun a => okD_int n a, fun a b => deq_int a b⟩
theorem EqD_lst [DecidableEq α] {n : Nat} {d : α → D} (h : EqD n d) : EqD (n + 1) (dL d) := ⟨fun l => by
    show (l.map d).all (okD n) = true
    rw [List.all_eq_true]
    intro x hx
    obtain ⟨a, _, rfl⟩ := List.mem_map.mp hx
    exact h.ok a, fun a b => (deq_lst _ _).trans (deqL_map d h.eq a b)⟩
theorem EqD_tup [DecidableEq α] {n : Nat} {m : Bool} {d : α → D} (h : EqD n d) : EqD (n + 1) (dT m d) := ⟨fun l => by
    show (l.map d).all (okD n) = true
    rw [List.all_eq_true]
    intro x hx
    obtain ⟨a, _, rfl⟩ := List.mem_map.mp hx
    exact h.ok a, fun a b => (deq_tup m m _ _).trans (deqL_map d h.eq a b)⟩
theorem EqD_opt [DecidableEq α] {n : Nat} {d : α → D} (h : EqD n d) (h1 : ∀ a, deq (d a) .non = false) (h2 : ∀ a, deq .non (d a) = false) : EqD n (dO d) := ⟨fun o => by
    cases o with
    | none => exact okD_non n
    | some a => exact h.ok a, fun a b => by
    cases a with
    | none =>
      cases b with
      | none => exact deq_non
      | some b => exact (h2 b).trans (by simp)
    | some a =>
      cases b with
      | none => exact (h1 a).trans (by simp)
      | some b => exact (h.eq a b).trans (decide_eq_decide.mpr ⟨fun e => by rw [e], fun e => Option.some.inj e⟩)⟩
theorem EqD_p2 [DecidableEq α] [DecidableEq β] {n : Nat} {d1 : α → D} {d2 : β → D} (h1 : EqD n d1) (h2 : EqD n d2) : EqD (n + 1) (dP2 d1 d2) := ⟨fun p => by
    show [d1 p.1, d2 p.2].all (okD n) = true
    simp [h1.ok, h2.ok], fun a b => by
    rw [deq_tup, deqL_cons, deqL_cons, deqL_nil, h1.eq, h2.eq, Bool.and_true, ← Bool.decide_and]
    exact decide_eq_decide.mpr ⟨fun h => Prod.ext h.1 h.2, fun h => by rw [h]; exact ⟨rfl, rfl⟩⟩⟩
theorem nonI1 (a : Int) : deq (dI a) .non = false := deq_int_non a
theorem nonI2 (a : Int) : deq .non (dI a) = false := deq_non_int a
theorem op_eq [DecidableEq α] {x y : O} {d : α → D} {a b : α} (h : EqD 60 d) (hx : x.frz = d a) (hy : y.frz = d b) : EG (ofO (oEq x y)) (.ok (decide (a = b))) (sh dB) := by
  rw [oEq_of (by rw [hx]; exact h.ok a) (by rw [hy]; exact h.ok b), hx, hy, h.eq]; exact rfl
theorem op_ne [DecidableEq α] {x y : O} {d : α → D} {a b : α} (h : EqD 60 d) (hx : x.frz = d a) (hy : y.frz = d b) : EG (ofO (oNe x y)) (.ok (!decide (a = b))) (sh dB) := by
  rw [oNe_of (by rw [hx]; exact h.ok a) (by rw [hy]; exact h.ok b), hx, hy, h.eq]; exact rfl
def memB [DecidableEq α] (a : α) (l : List α) : Bool := decide (a ∈ l)
@[simp] theorem memB_true [DecidableEq α] (a : α) (l : List α) : (memB a l = true) = (a ∈ l) := by unfold memB; exact decide_eq_true_eq
@[simp] theorem memB_false [DecidableEq α] (a : α) (l : List α) : (memB a l = false) = (a ∉ l) := by unfold memB; exact propext decide_eq_false_iff_not
theorem any_mem [DecidableEq α] {d : α → D} {n : Nat} (h : EqD n d) (l : List α) (x : α) : ((l.map d).any fun z => deq z (d x)) = decide (x ∈ l) := by
  induction l with
  | nil => rfl
  | cons a r ih =>
    rw [List.map_cons, List.any_cons, ih, h.eq, ← Bool.decide_or]
    exact decide_eq_decide.mpr ⟨fun h => by
      rcases h with h | h
      · rw [h]; exact List.mem_cons_self
      · exact List.mem_cons_of_mem _ h, fun h => by
      rcases List.mem_cons.mp h with h | h
      · exact .inl h.symm
      · exact .inr h⟩
theorem op_in [DecidableEq α] {x y : O} {d : α → D} {a : α} {l : List α} (h : EqD 59 d) (h6 : EqD 60 d) (hx : x.frz = d a) (hy : itemsP y.frz = some (l.map d)) : EG (ofO (oIn x y)) (.ok (memB a l)) (sh dB) := by
  rw [oIn_seq hy (by rw [hx]; exact h6.ok a) (by
    rw [List.all_eq_true]
    intro z hz
    obtain ⟨a, _, rfl⟩ := List.mem_map.mp hz
    exact h.ok a), hx, any_mem h]
  exact rfl
theorem op_notIn [DecidableEq α] {x y : O} {d : α → D} {a : α} {l : List α} (h : EqD 59 d) (h6 : EqD 60 d) (hx : x.frz = d a) (hy : itemsP y.frz = some (l.map d)) : EG (ofO (oNotIn x y)) (.ok (!memB a l)) (sh dB) := by
  rw [oNotIn_seq hy (by rw [hx]; exact h6.ok a) (by
    rw [List.all_eq_true]
    intro z hz
    obtain ⟨a, _, rfl⟩ := List.mem_map.mp hz
    exact h.ok a), hx, any_mem h]
  exact rfl
theorem itP_lst {y : O} {d : α → D} {l : List α} (h : y.frz = dL d l) : itemsP y.frz = some (l.map d) := by rw [h]; exact itemsP_lst _
def getM : Option α → M α
  | some a => .ok a
  | none => .stk
theorem EG_get {r : RP} {o : Option α} {d : α → D} (h : EG r (.ok o) (sh (dO d))) : EG r (getM o) (sh d) := by
  cases o with
  | none => trivial
  | some a => exact h
theorem EG_getm {r : RP} {t : M (Option α)} {d : α → D} (h : EG r t (sh (dO d))) : EG r (t.bind getM) (sh d) := by
  cases t with
  | ok o => exact EG_get h
  | exc c u => exact h
  | stk => trivial
def atM (l : List α) (i : Int) : M α := ofO (atI l i)
theorem atI_map {f : α → β} (l : List α) (i : Int) : atI (l.map f) i = (atI l i).map f := by
  unfold atI
  rw [List.length_map]
  cases ixN l.length i with
  | none => rfl
  | some k => rw [Option.bind_some, Option.bind_some, List.getElem?_map]
theorem op_at {x : O} {b : Bool} {d : α → D} {l : List α} {i : Int} (h : itemsD x = some (b, l.map d)) : EG (ofO (oAt x (sh dI i))) (atM l i) (sh d) := by
  unfold atM
  cases q : atI l i with
  | none => trivial
  | some a =>
    show ofO (oAt x (.sh (.int i))) = R.ok (.sh (d a))
    rw [oAt_seq h (by rw [atI_map, q]; rfl)]; rfl
theorem itD_lst (d : α → D) (l : List α) : itemsD (sh (dL d) l) = some (true, l.map d) := itemsD_lst _
theorem itD_tup (m : Bool) (d : α → D) (l : List α) : itemsD (sh (dT m d) l) = some (false, l.map d) := itemsD_tup m _
theorem itD_own (d : α → D) (l : List α) : itemsD (oL (sh d) l) = some (true, l.map d) := by
  have := itemsD_own (l.map d)
  rwa [List.map_map] at this
theorem look_map {κ : Type} [DecidableEq κ] {f : α → β} {k : κ} : ∀ l : List (κ × α), look (l.map fun p => (p.1, f p.2)) k = (look l k).map f
  | [] => rfl
  | p :: l => by
    have ih := look_map (f := f) (k := k) l
    unfold look at ih ⊢
    rw [List.map_cons, List.find?_cons, List.find?_cons]
    by_cases h : p.1 = k
    · simp [h]
    · simp only [h, decide_false]; exact ih
theorem look_inl {k : Int} : ∀ l : List (Int × α), look (l.map fun p => ((.inl p.1 : Key), p.2)) (.inl k) = look l k
  | [] => rfl
  | p :: l => by
    have ih := look_inl (k := k) l
    unfold look at ih ⊢
    rw [List.map_cons, List.find?_cons, List.find?_cons]
    by_cases h : p.1 = k
    · simp [h]
    · have : ¬ (Sum.inl p.1 : Key) = Sum.inl k := fun e => h (Sum.inl.inj e)
      simp only [h, this, decide_false]; exact ih
theorem look_dK (d : α → D) (l : List (Int × α)) (k : Int) : look (l.map fun p => ((.inl p.1 : Key), d p.2)) (.inl k) = (look l k).map d := by
  rw [← look_inl l, ← look_map, List.map_map]; rfl
def lookM (l : List (Int × α)) (k : Int) : M α := ofO (look l k)
theorem op_atK (d : α → D) (l : List (Int × α)) (k : Int) : EG (ofO (oAt (sh (dK d) l) (sh dI k))) (lookM l k) (sh d) := by
  unfold lookM
  cases q : look l k with
  | none => trivial
  | some a =>
    show ofO (oAt _ _) = R.ok (.sh (d a))
    have h1 : dGet (sh (dK d) l) (sh dI k) = some (some (.sh (d a))) := by
      show some ((look (l.map fun p => ((.inl p.1 : Key), d p.2)) (.inl k)).map O.sh) = _
      rw [look_dK, q]; rfl
    have h2 : oAt (sh (dK d) l) (sh dI k) = some (.sh (d a)) := by
      unfold oAt orE
      have h3 : oIx (sh (dK d) l) (sh dI k) = none := rfl
      rw [h3]
      dsimp only
      unfold oIxD
      rw [h1]; rfl
    rw [h2]; rfl
theorem op_len {x : O} {b : Bool} {xs : List O} {f : α → O} {l : List α} (h : seqO x = some (b, xs)) (hx : xs = l.map f) (hs : ∀ s, x ≠ .sh (.str s)) : EG (ofO (oLen [x])) (.ok (l.length : Int)) (sh dI) := by
  have : oLen [x] = some (.sh (.int xs.length)) := by
    unfold oLen
    split
    · rename_i s e; cases e; exact absurd rfl (hs s)
    · rename_i y _ e; cases e; rw [h]; rfl
    · rename_i h1 h2; exact absurd rfl (h2 x)
  rw [this, hx, List.length_map]; exact rfl
theorem op_lenL (d : α → D) (l : List α) : EG (ofO (oLen [sh (dL d) l])) (.ok (l.length : Int)) (sh dI) := op_len (f := sh d) (x := sh (dL d) l) rfl (by rw [List.map_map]; rfl) fun s e => by cases e
theorem op_lenT (m : Bool) (d : α → D) (l : List α) : EG (ofO (oLen [sh (dT m d) l])) (.ok (l.length : Int)) (sh dI) := op_len (f := sh d) (x := sh (dT m d) l) rfl (by rw [List.map_map]; rfl) fun s e => by cases e
theorem op_lenX (d : α → D) (l : Bool × List α) : EG (ofO (oLen [sh (dX d) l])) (.ok (l.2.length : Int)) (sh dI) := op_len (f := sh d) (x := sh (dX d) l) rfl (by rw [List.map_map]; rfl) fun s e => by cases e
theorem op_lenO (e : α → O) (l : List α) : EG (ofO (oLen [oL e l])) (.ok (l.length : Int)) (sh dI) := op_len (f := e) (x := oL e l) rfl rfl fun s e => by cases e
theorem op_tupleT (m : Bool) (d : α → D) (l : List α) : EG (ofO (oTuple [sh (dT m d) l])) (.ok l) (sh (dT m d)) := rfl
theorem op_tuple {x : O} {d : α → D} {l : List α} (h : itemsD x = some (true, l.map d)) (hs : ∀ m xs, x ≠ .sh (.tup m xs)) : EG (ofO (oTuple [x])) (.ok l) (sh (dT false d)) := by
  have : oTuple [x] = some (.sh (.tup false (l.map d))) := by
    unfold oTuple
    split
    · rename_i m xs e; cases e; exact absurd rfl (hs m xs)
    · rename_i y _ e; cases e; rw [h]; rfl
    · rename_i h1 h2; exact absurd rfl (h2 x)
  rw [this]; exact rfl
theorem op_tupleL (d : α → D) (l : List α) : EG (ofO (oTuple [sh (dL d) l])) (.ok l) (sh (dT false d)) := op_tuple (itD_lst d l) fun m xs e => by cases e
theorem op_tupleO (d : α → D) (l : List α) : EG (ofO (oTuple [oL (sh d) l])) (.ok l) (sh (dT false d)) := op_tuple (itD_own d l) fun m xs e => by cases e
theorem op_tupleM {x : O} {d : α → D} {l : List α} (h : itemsD x = some (true, l.map d)) (hs : ∀ m xs, x ≠ .sh (.tup m xs)) : EG (ofO (oTupleM [x])) (.ok l) (sh (dT true d)) := by
  have : oTupleM [x] = some (.sh (.tup true (l.map d))) := by
    unfold oTupleM
    split
    · rename_i m xs e; cases e; exact absurd rfl (hs m xs)
    · rename_i y _ e; cases e; rw [h]; rfl
    · rename_i h1 h2; exact absurd rfl (h2 x)
  rw [this]; exact rfl
theorem op_tupleMO (d : α → D) (l : List α) : EG (ofO (oTupleM [oL (sh d) l])) (.ok l) (sh (dT true d)) := op_tupleM (itD_own d l) fun m xs e => by cases e
theorem op_plusT {m m' : Bool} (d : α → D) (x y : List α) : EG (ofO (oPlus (sh (dT m d) x) (sh (dT m' d) y))) (grd (decide (x.length + y.length ≤ lim)) (.ok (if x.isEmpty then m' else if y.isEmpty then m else false, x ++ y)) .stk) (sh (dX d)) := by
  have h : oPlus (sh (dT m d) x) (sh (dT m' d) y) = if (x.map d).length + (y.map d).length ≤ lim then some (O.sh (if (x.map d).isEmpty then .tup m' (y.map d) else if (y.map d).isEmpty then .tup m (x.map d) else .tup false (x.map d ++ y.map d))) else none := by
    unfold oPlus orE
    show (match (none : Option O) with
      | some z => some z
      | none => match catT (sh (dT m d) x) (sh (dT m' d) y) with
        | some z => some z
        | none => _) = _
    dsimp only [catT]
    split
    · rename_i z e; exact e.symm
    · rename_i e
      rw [e]; rfl
  rw [h, List.length_map, List.length_map]
  by_cases hz : x.length + y.length ≤ lim
  · rw [if_pos hz, decide_eq_true hz]
    cases x with
    | nil => exact rfl
    | cons a x =>
      cases y with
      | nil =>
        show R.ok (O.sh (.tup m ((a :: x).map d))) = R.ok (O.sh (.tup m ((a :: x ++ []).map d)))
        rw [List.append_nil]
      | cons b y =>
        show R.ok (O.sh (.tup false ((a :: x).map d ++ (b :: y).map d))) = R.ok (O.sh (.tup false ((a :: x ++ b :: y).map d)))
        rw [List.map_append]
  · rw [decide_eq_false hz]; trivial
theorem op_plusF (d : α → D) (x y : List α) : EG (ofO (oPlus (sh (dT false d) x) (sh (dT false d) y))) (grd (szOk (x.length + y.length)) (.ok (x ++ y)) .stk) (sh (dT false d)) := by
  have := op_plusT (m := false) (m' := false) d x y
  unfold szOk
  by_cases hz : x.length + y.length ≤ lim
  · rw [decide_eq_true hz] at this ⊢
    have h2 : ofO (oPlus (sh (dT false d) x) (sh (dT false d) y)) = R.ok (O.sh (.tup (if x.isEmpty then false else if y.isEmpty then false else false) ((x ++ y).map d))) := this
    show ofO _ = R.ok _
    rw [h2]
    congr 4
    cases x.isEmpty <;> cases y.isEmpty <;> rfl
  · rw [decide_eq_false hz]; trivial
theorem op_plusL {x y : O} {d : α → D} {l r : List α} (hx : lstO x = some (l.map d)) (hy : lstO y = some (r.map d)) (h1 : oAdd x y = none) (h2 : catT x y = none) : EG (ofO (oPlus x y)) (grd (szOk (l.length + r.length)) (.ok (l ++ r)) .stk) (oL (sh d)) := by
  unfold oPlus orE szOk
  rw [h1]
  dsimp only
  rw [h2]
  dsimp only
  unfold catL
  rw [hx, hy, Option.bind_some, Option.bind_some, List.length_map, List.length_map]
  by_cases hz : l.length + r.length ≤ lim
  · rw [if_pos hz, decide_eq_true hz]
    show R.ok (O.lst ((l.map d ++ r.map d).map O.sh)) = R.ok (O.lst ((l ++ r).map (sh d)))
    rw [← List.map_append, List.map_map]; rfl
  · rw [decide_eq_false hz]; trivial
theorem lsO_sh (d : α → D) (l : List α) : lstO (sh (dL d) l) = some (l.map d) := rfl
theorem lsO_own (d : α → D) (l : List α) : lstO (oL (sh d) l) = some (l.map d) := allSh_sh d l
noncomputable def repM (l : List α) (k : Int) : M (List α) := grd (okI k && decide (l.length * k.toNat ≤ lim)) (.ok (List.replicate k.toNat l).flatten) .stk
theorem op_rep {x : O} {d : α → D} {l : List α} {k : Int} (hx : lstO x = some (l.map d)) (h1 : oMul x (sh dI k) = none) : EG (ofO (oStar x (sh dI k))) (repM l k) (oL (sh d)) := by
  unfold oStar orE repM
  rw [h1]
  dsimp only
  unfold repL
  rw [hx, Option.bind_some, show asI (sh dI k) = some k from rfl, Option.bind_some, List.length_map]
  cases okI k && decide (l.length * k.toNat ≤ lim) with
  | false => trivial
  | true =>
    show R.ok (O.lst ((List.replicate k.toNat (l.map d)).flatten.map O.sh)) = R.ok (O.lst ((List.replicate k.toNat l).flatten.map (sh d)))
    have : ∀ n : Nat, (List.replicate n (l.map d)).flatten = (List.replicate n l).flatten.map d := fun n => by
      induction n with
      | zero => rfl
      | succ n ih => rw [List.replicate_succ, List.replicate_succ, List.flatten_cons, List.flatten_cons, List.map_append, ih]
    rw [this, List.map_map]; rfl
theorem cutG_map {f : α → β} (l : List α) (a b : Option Int) : cutG (l.map f) a b = (cutG l a b).map f := by
  unfold cutG
  rw [List.length_map, List.map_take, List.map_drop]
theorem op_slL {x : O} {d : α → D} {l : List α} {a b : Option Int} (h : itemsD x = some (true, l.map d)) (hs : ∀ m xs, x ≠ .sh (.tup m xs)) : EG (ofO (oSl x a b)) (.ok (cutG l a b)) (oL (sh d)) := by
  have : oSl x a b = some (.lst ((cutG (l.map d) a b).map .sh)) := by
    unfold oSl
    split
    · rename_i m xs; exact absurd rfl (hs m xs)
    · rw [h]; rfl
  rw [this, cutG_map, List.map_map]; exact rfl
theorem op_slLst (d : α → D) (l : List α) (a b : Option Int) : EG (ofO (oSl (sh (dL d) l) a b)) (.ok (cutG l a b)) (oL (sh d)) := op_slL (itD_lst d l) fun m xs e => by cases e
theorem op_slOwn (d : α → D) (l : List α) (a b : Option Int) : EG (ofO (oSl (oL (sh d) l) a b)) (.ok (cutG l a b)) (oL (sh d)) := op_slL (itD_own d l) fun m xs e => by cases e
theorem cutG_whole (l : List α) (a b : Option Int) (h : wholeG l.length a b = true) : cutG l a b = l := by
  unfold wholeG at h
  rw [Bool.and_eq_true] at h
  unfold cutG
  rw [of_decide_eq_true h.1, of_decide_eq_true h.2, List.drop_zero, Nat.sub_zero, List.take_length]
theorem op_slF (d : α → D) (l : List α) (a b : Option Int) : EG (ofO (oSl (sh (dT false d) l) a b)) (.ok (cutG l a b)) (sh (dT false d)) := by
  show ofO (some (O.sh (if wholeG (l.map d).length a b = true then D.tup false (l.map d) else .tup false (cutG (l.map d) a b)))) = _
  rw [List.length_map, cutG_map]
  cases h : wholeG l.length a b with
  | true => rw [cutG_whole l a b h]; rfl
  | false => rfl
theorem op_slT (m : Bool) (d : α → D) (l : List α) (a b : Option Int) : EG (ofO (oSl (sh (dT m d) l) a b)) (.ok (wholeG l.length a b && m, cutG l a b)) (sh (dX d)) := by
  show ofO (some (O.sh (if wholeG (l.map d).length a b = true then D.tup m (l.map d) else .tup false (cutG (l.map d) a b)))) = _
  rw [List.length_map, cutG_map]
  cases h : wholeG l.length a b with
  | true => rw [cutG_whole l a b h]; rfl
  | false => rfl
theorem op_slS (d : α → D) (l : List α) (a b : Option Int) : EG (ofO (oSlS (sh (dF d) l) a b)) (.ok (cutG l a b)) (oL (sh d)) := by
  show ofO (some (O.lst ((cutG (l.map d) a b).map .sh))) = _
  rw [cutG_map, List.map_map]; rfl
def idxM [DecidableEq α] (l : List α) (x : α) : M Int := match l.findIdx? (fun z => decide (z = x)) with
  | some j => .ok (j : Nat)
  | none => .stk
theorem idxD_map [DecidableEq α] {n : Nat} {d : α → D} (h : EqD n d) (l : List α) (x : α) : idxD (l.map d) (d x) = l.findIdx? (fun z => decide (z = x)) := by
  unfold idxD
  rw [List.findIdx?_map]
  congr 1
  funext z
  exact h.eq z x
theorem EG_idxT [DecidableEq α] {f g : En → RP} {env : En} {s : M (List α)} {t : M α} {d : α → D} (hq : EqD 60 d) (h : EG (f env) s (sh (dT true d))) (h2 : EG (g env) t (sh d)) : EG (bIdx f g env) (s.bind fun l => t.bind fun x => idxM l x) (sh dI) := by
  unfold bIdx
  refine h.bind fun l => ?_
  dsimp only
  refine h2.bind fun x => ?_
  dsimp only
  rw [if_pos (by
    rw [Bool.and_eq_true]
    exact ⟨pyOkL_of (by
      rw [List.all_eq_true]
      intro z hz
      obtain ⟨a, _, rfl⟩ := List.mem_map.mp hz
      exact hq.ok a), pyOk_of (hq.ok x)⟩), idxD_map hq]
  unfold idxM
  cases l.findIdx? (fun z => decide (z = x)) with
  | none => trivial
  | some j => exact rfl
theorem EG_idxL [DecidableEq α] {f g : En → RP} {env : En} {s : M (List α)} {t : M α} {d : α → D} (hq : EqD 60 d) (h : EG (f env) s (sh (dL d))) (h2 : EG (g env) t (sh d)) : EG (bIdx f g env) (s.bind fun l => t.bind fun x => idxM l x) (sh dI) := by
  unfold bIdx
  refine h.bind fun l => ?_
  dsimp only
  refine h2.bind fun x => ?_
  dsimp only
  rw [if_pos (by
    rw [Bool.and_eq_true]
    exact ⟨pyOkL_of (by
      rw [List.all_eq_true]
      intro z hz
      obtain ⟨a, _, rfl⟩ := List.mem_map.mp hz
      exact hq.ok a), pyOk_of (hq.ok x)⟩), idxD_map hq]
  unfold idxM
  cases l.findIdx? (fun z => decide (z = x)) with
  | none => trivial
  | some j => exact rfl
noncomputable def rngM (a b : Int) : M (List Int) := grd (okR a b) (.ok (rngT a b)) .stk
theorem EG_rg1 {f : En → RP} {env : En} {j : Int} (h : EG (f env) (.ok j) (sh dI)) : EG (rg1 f env) (.ok (0, j)) id := by
  unfold rg1
  exact h.bindp rfl
theorem EG_lstR {f : En → R Unit (Int × Int)} {env : En} {a b : Int} (h : EG (f env) (.ok (a, b)) id) : EG (bLstR f env) (rngM a b) (oL (sh dI)) := by
  unfold bLstR rngM
  refine h.bindp ?_
  show EG (if okR a b = true then (R.ok (O.lst ((rngD a b).map .sh)) : RP) else .stk) _ _
  cases okR a b with
  | false => trivial
  | true =>
    show R.ok _ = R.ok _
    rw [rngD_map, List.map_map]; rfl
theorem EG_tupR {f : En → R Unit (Int × Int)} {env : En} {a b : Int} (h : EG (f env) (.ok (a, b)) id) : EG (bTupR f env) (rngM a b) (sh (dT false dI)) := by
  unfold bTupR rngM
  refine h.bindp ?_
  show EG (if okR a b = true then (R.ok (O.sh (.tup false (rngD a b))) : RP) else .stk) _ _
  cases okR a b with
  | false => trivial
  | true =>
    show R.ok _ = R.ok _
    rw [rngD_map]
theorem EG_bTup {f : En → R Unit (List O)} {env : En} {t : M α} {e : α → List O} {d : α → List D} {k : Nat} (h : EG (f env) t e) (hs : ∀ v, allSh (e v) = some (d v)) (hk : ∀ v, (d v).length = k) (hz : k ≤ 1000) : EG (bTup f env) t (fun v => .sh (.tup false (d v))) := by
  unfold bTup
  cases t with
  | ok v =>
    rw [show f env = .ok (e v) from h, bind_ok, hs, Option.bind_some, hk, if_pos (szOk_le (by omega))]
    exact rfl
  | exc c u => rw [show f env = .exc c () from h]; exact rfl
  | stk => trivial
theorem EG_bLst {f : En → R Unit (List O)} {env : En} {t : M α} {e : α → List O} {d : α → List D} {k : Nat} (h : EG (f env) t e) (hs : ∀ v, allSh (e v) = some (d v)) (hk : ∀ v, (d v).length = k) (hz : k ≤ 1000) : EG (bLst f env) t (fun v => .lst ((d v).map .sh)) := by
  unfold bLst
  cases t with
  | ok v =>
    rw [show f env = .ok (e v) from h, bind_ok, hs, Option.bind_some, hk, if_pos (szOk_le (by omega))]
    exact rfl
  | exc c u => rw [show f env = .exc c () from h]; exact rfl
  | stk => trivial
theorem EX_eTup {f : En → R En (List O × En)} {env : En} {t : M α} {e : α → List O} {E : α → En} {d : α → D} {k : Nat} (h : EX (f env) t e E) (hk : ∀ v, (e v).length = k) (hz : k ≤ 1000) (hd : ∀ v, D.tup false ((e v).map O.frz) = d v) : EX (eTup f env) t (sh d) E := by
  unfold eTup
  cases t with
  | ok v =>
    rw [show f env = .ok (e v, E v) from h, bind_ok]
    dsimp only
    rw [hk, if_pos (szOk_le (by omega)), hd]
    exact rfl
  | exc c u => obtain ⟨e1, h⟩ := h; rw [h]; exact ⟨e1, rfl⟩
  | stk => trivial
theorem EX_eLst {f : En → R En (List O × En)} {env : En} {t : M α} {e : α → List O} {E : α → En} {k : Nat} (h : EX (f env) t e E) (hk : ∀ v, (e v).length = k) (hz : k ≤ 1000) : EX (eLst f env) t (fun v => .lst (e v)) E := by
  unfold eLst
  cases t with
  | ok v =>
    rw [show f env = .ok (e v, E v) from h, bind_ok]
    dsimp only
    rw [hk, if_pos (szOk_le (by omega))]
    exact rfl
  | exc c u => obtain ⟨e1, h⟩ := h; rw [h]; exact ⟨e1, rfl⟩
  | stk => trivial
theorem putG_inl {k : Int} {v : α} (l : List (Int × α)) : putG (l.map fun p => ((.inl p.1 : Key), p.2)) (.inl k) v = (putG l k v).map fun p => ((.inl p.1 : Key), p.2) := by
  unfold putG
  have h1 : ((l.map fun p => ((.inl p.1 : Key), p.2)).any fun kv => decide (kv.1 = .inl k)) = l.any fun kv => decide (kv.1 = k) := by
    rw [List.any_map]
    congr 1
    funext p
    exact decide_eq_decide.mpr ⟨fun e => Sum.inl.inj e, fun e => congrArg _ e⟩
  rw [h1]
  cases l.any fun kv => decide (kv.1 = k) with
  | true =>
    rw [if_pos rfl, if_pos rfl, List.map_map, List.map_map]
    apply List.map_congr_left
    intro p _
    show (if (.inl p.1 : Key) = .inl k then ((.inl p.1 : Key), v) else ((.inl p.1 : Key), p.2)) = _
    by_cases h : p.1 = k
    · simp [h]
    · have : ¬ (Sum.inl p.1 : Key) = Sum.inl k := fun e => h (Sum.inl.inj e)
      simp [h, this]
  | false => simp
theorem putG_val {κ : Type} [DecidableEq κ] {f : α → β} {k : κ} {v : α} (l : List (κ × α)) : putG (l.map fun p => (p.1, f p.2)) k (f v) = (putG l k v).map fun p => (p.1, f p.2) := by
  unfold putG
  have h1 : ((l.map fun p => (p.1, f p.2)).any fun kv => decide (kv.1 = k)) = l.any fun kv => decide (kv.1 = k) := by
    rw [List.any_map]; rfl
  rw [h1]
  cases l.any fun kv => decide (kv.1 = k) with
  | true =>
    rw [if_pos rfl, if_pos rfl, List.map_map, List.map_map]
    apply List.map_congr_left
    intro p _
    show (if p.1 = k then (p.1, f v) else (p.1, f p.2)) = _
    by_cases h : p.1 = k
    · simp [h]
    · simp [h]
  | false => simp
theorem mergeG_dK (d : α → D) : ∀ (more l : List (Int × α)), mergeG (l.map fun p => ((.inl p.1 : Key), d p.2)) (more.map fun p => ((.inl p.1 : Key), d p.2)) = (mergeG l more).map fun p => ((.inl p.1 : Key), d p.2)
  | [], l => rfl
  | q :: more, l => by
    have h : putG (l.map fun p => ((.inl p.1 : Key), d p.2)) (.inl q.1) (d q.2) = (putG l q.1 q.2).map fun p => ((.inl p.1 : Key), d p.2) := by
      have h1 := putG_val (f := d) (k := (.inl q.1 : Key)) (v := q.2) (l.map fun p => ((.inl p.1 : Key), p.2))
      rw [List.map_map, putG_inl, List.map_map] at h1
      exact h1
    have ih := mergeG_dK d more (putG l q.1 q.2)
    unfold mergeG at ih ⊢
    rw [List.map_cons, List.foldl_cons, List.foldl_cons]
    dsimp only
    rw [h, ih]
theorem pairsD_map (d : α → D) : ∀ l : List (Int × α), pairsD (l.map (dP2 dI d)) = some (l.map fun p => ((.inl p.1 : Key), d p.2))
  | [] => rfl
  | p :: l => by
    rw [List.map_cons, pairsD, pairsD_map d l]; rfl
theorem op_dict {x : O} {d : α → D} {l : List (Int × α)} (h : itemsD x = some (true, l.map (dP2 dI d))) : EG (ofO (oDict [x])) (.ok (mergeG [] l)) (fun r => .dK (r.map fun p => ((.inl p.1 : Key), O.sh (d p.2)))) := by
  unfold oDict
  dsimp only
  rw [h, Option.bind_some]
  dsimp only
  rw [if_pos rfl, pairsD_map, Option.bind_some]
  have := mergeG_dK d l []
  rw [List.map_nil] at this
  rw [this]
  show R.ok (O.dK (((mergeG [] l).map fun p => ((.inl p.1 : Key), d p.2)).map fun q => (q.1, O.sh q.2))) = R.ok _
  rw [List.map_map]; rfl
@[reducible] def oK (d : α → D) : List (Int × α) → O := fun r => .dK (r.map fun p => ((.inl p.1 : Key), O.sh (d p.2)))
theorem fz_oK (d : α → D) (l : List (Int × α)) : (oK d l).frz = dK d l := by
  show (O.dK _).frz = _
  rw [frz_dK, List.map_map]
  show D.dK (l.map fun p => ((.inl p.1 : Key), (O.sh (d p.2)).frz)) = D.dK (l.map fun p => ((.inl p.1 : Key), d p.2))
  simp only [frz_sh]
end
section
variable {α ρ κ σ : Type} {F : ρ → O → En → Prop} {L : κ → En → Prop} {B : σ → En → Prop}
end
section
variable {α ρ : Type}
end
end FD.Ty
namespace FD.Ty
open PySem L2 FD
section
variable {α β γ δ ρ κ σ τ : Type}
theorem EX_fin {o : Option O} {env : En} {t : M α} {e : α → O} (h : EG (ofO o) t e) (f : α → γ) (e' : γ → O) (E' : γ → En) (he : ∀ v, e v = e' (f v)) (hE : ∀ v, env = E' (f v)) : EX (finO o env) (t.bind fun v => .ok (f v)) e' E' := EX.co f e' E' (EX_ofM h) he hE
theorem EX_finp {o : Option O} {env : En} {v : α} {e : α → O} (h : EG (ofO o) (.ok v) e) (w : γ) (e' : γ → O) (E' : γ → En) (he : e v = e' w) (hE : env = E' w) : EX (finO o env) (.ok w) e' E' := EX_fin h.unit (fun _ => w) e' E' (fun _ => he) (fun _ => hE)
theorem EX_op2 {go : O → O → Option O} {f g : En → RE} {env : En} {t : M α} {e : α → O} {E : α → En} (h : EX ((f env).bind fun p => (g p.2).bind fun q => finO (go p.1 q.1) q.2) t e E) : EX (eOp2 go f g env) t e E := h
theorem EX_op2v {go : O → O → Option O} {i : Nat} {g : En → RE} {env : En} {x0 : O} {t : M α} {e : α → O} {E : α → En} {x : α → O} {k : α → M γ} {e' : γ → O} {E' : γ → En} (h0 : gt env i = some x0) (h : EX (g env) t e E) (hx : ∀ q, gt (E q) i = some (x q))
    (hk : ∀ q, EX (finO (go (x q) (e q)) (E q)) (k q) e' E') : EX (eOp2v go i g env) (t.bind k) e' E' := by
  unfold eOp2v
  rw [h0]
  dsimp only
  refine h.bind fun q => ?_
  dsimp only
  rw [hx, Option.bind_some]
  exact hk q
theorem EX_e1 {go : List O → Option O} {f : En → RE} {env : En} {t : M α} {e : α → O} {E : α → En} (h : EX ((f env).bind fun p => finO (go [p.1]) p.2) t e E) : EX (e1 go f env) t e E := h
def lc0 (f : α → M β) : List α → M (List β)
  | [] => .ok []
  | a :: l => match f a with
    | .ok x => match lc0 f l with
      | .ok r => .ok (x :: r)
      | _ => .stk
    | _ => .stk
theorem lc0_ok {vs : List Nat} {tgt : D → En → Option En} {elt : En → RE} {d : α → D} {f : α → M β} {e : β → O} {Es : En} (hb : ∀ a, ∃ e1 E, tgt (d a) Es = some e1 ∧ EX (elt e1) (f a) e E ∧ ∀ v, wipeE (E v) vs = Es) :
    ∀ (l : List α) (acc : List O) (r : List β), lc0 f l = .ok r → lcE vs tgt uYes elt (l.map d) acc Es = .ok (acc ++ r.map e, Es)
  | [], acc, r, h => by
    unfold lc0 at h
    cases h
    show R.ok (acc, Es) = R.ok (acc ++ [], Es)
    rw [List.append_nil]
  | a :: l, acc, r, h => by
    obtain ⟨e1, E, h1, h2, h3⟩ := hb a
    unfold lc0 at h
    rw [List.map_cons]
    unfold lcE
    rw [h1]
    dsimp only
    show (match elt e1 with
      | .ok (x, e3) => lcE vs tgt uYes elt (l.map d) (acc ++ [x]) (wipeE e3 vs)
      | _ => .stk) = _
    cases hf : f a with
    | ok x =>
      rw [hf] at h2 h
      dsimp only at h
      rw [show elt e1 = .ok (e x, E x) from h2]
      dsimp only
      rw [h3]
      cases hl : lc0 f l with
      | ok r1 =>
        rw [hl] at h
        dsimp only at h
        cases h
        rw [lc0_ok hb l (acc ++ [e x]) r1 hl, List.append_assoc]; rfl
      | exc c u => rw [hl] at h; cases h
      | stk => rw [hl] at h; cases h
    | exc c u => rw [hf] at h; cases h
    | stk => rw [hf] at h; cases h
theorem lc0_noexc (f : α → M β) (c : Nat) (u : Unit) : ∀ l : List α, lc0 f l ≠ .exc c u
  | [], h => by cases h
  | a :: l, h => by
    unfold lc0 at h
    split at h
    · split at h
      · cases h
      · cases h
    · cases h
theorem EX_lc0 {vs : List Nat} {it : En → R Unit (List D)} {tgt : D → En → Option En} {elt : En → RE} {env : En} {t : M (List α)} {d : α → D} {f : α → M β} {e : β → O} {Es Ef : En} (hi : EG (it env) t (List.map d)) (h0 : wipeE env vs = Es)
    (hb : ∀ a, ∃ e1 E, tgt (d a) Es = some e1 ∧ EX (elt e1) (f a) e E ∧ ∀ v, wipeE (E v) vs = Es) (hf : restE env Es vs = Ef) :
    EX (eLc vs (iJ it) tgt uYes elt env) (t.bind fun l => grd (szOk l.length) (lc0 f l) .stk) (oL e) (fun _ => Ef) := by
  unfold eLc iJ
  cases t with
  | stk => trivial
  | exc c u => rw [show it env = .exc c () from hi]; exact ⟨env, rfl⟩
  | ok l =>
    rw [show it env = .ok (l.map d) from hi]
    dsimp only
    rw [bind_ok]
    dsimp only
    rw [List.length_map, h0]
    show EX _ (grd (szOk l.length) (lc0 f l) .stk) _ _
    cases szOk l.length with
    | false => trivial
    | true =>
      rw [if_pos rfl]
      show EX _ (lc0 f l) _ _
      cases hl : lc0 f l with
      | ok r =>
        have := lc0_ok hb l [] r hl
        rw [List.nil_append] at this
        rw [this]
        show R.ok _ = R.ok _
        dsimp only
        rw [hf]
      | exc c u => exact absurd hl (lc0_noexc f c u l)
      | stk => trivial
theorem EX_lc0p {vs : List Nat} {it : En → R Unit (List D)} {tgt : D → En → Option En} {elt : En → RE} {env : En} {l : List α} {d : α → D} {f : α → M β} {e : β → O} {Es Ef : En} (hi : EG (it env) (.ok l) (List.map d)) (h0 : wipeE env vs = Es)
    (hb : ∀ a, ∃ e1 E, tgt (d a) Es = some e1 ∧ EX (elt e1) (f a) e E ∧ ∀ v, wipeE (E v) vs = Es) (hf : restE env Es vs = Ef) :
    EX (eLc vs (iJ it) tgt uYes elt env) (grd (szOk l.length) (lc0 f l) .stk) (oL e) (fun _ => Ef) := EX_lc0 hi h0 hb hf
theorem EX_lcm {vs : List Nat} {it : En → R Unit (List D)} {tgt : D → En → Option En} {elt : En → RE} {env : En} {t : M (List α)} {d : α → D} {f : α → σ → M (β × σ)} {e : β → O} {Es Ef : σ → En} {s0 : σ} (hi : EG (it env) t (List.map d)) (h0 : wipeE env vs = Es s0)
    (hb : ∀ a s, ∃ e1 E, tgt (d a) (Es s) = some e1 ∧ EX (elt e1) (f a s) (fun v => e v.1) E ∧ ∀ v, wipeE (E v) vs = Es v.2) (hf : ∀ s, restE env (Es s) vs = Ef s) :
    EX (eLc vs (iJ it) tgt uYes elt env) (t.bind fun l => grd (szOk l.length) (lcX f l s0) .stk) (fun v => oL e v.1) (fun v => Ef v.2) := by
  cases t with
  | ok l => exact EX_lc hi h0 hb hf
  | exc c u =>
    unfold eLc iJ
    rw [show it env = .exc c () from hi]; exact ⟨env, rfl⟩
  | stk => trivial
theorem EX_appm {i : Nat} {f : En → RE} {env : En} {xs0 : List O} {s : M α} {ev : α → O} {x : α → β} {l : List β} {e : β → O} (h0 : lstG env i = some xs0) (h : EX (f env) s ev (fun _ => env)) (hx : ∀ v, ev v = e (x v)) (hl : gt env i = some (oL e l)) :
    EX (eApp i f env) (s.bind fun v => appM l (x v)) (fun _ => .sh .non) (fun l' => env.set i (some (oL e l'))) := by
  cases s with
  | stk => trivial
  | exc c u =>
    obtain ⟨e1, h⟩ := h
    unfold eApp
    rw [h0, h]; exact ⟨e1, rfl⟩
  | ok v => exact EX_app h0 h (hx v) hl
end
end FD.Ty


set_option Elab.async false
set_option linter.all false
set_option maxRecDepth 100000
namespace FD.Ty
open PySem L2 FD
section
variable {α β γ δ ρ κ σ τ : Type}
def Ok (t : M α) (P : α → Prop) : Prop := ∃ v, t = .ok v ∧ P v
theorem Ok.ok {v : α} {P : α → Prop} (h : P v) : Ok (.ok v) P := ⟨v, rfl, h⟩
theorem Ok.of {t : M α} {v : α} {P : α → Prop} (h : t = .ok v) (h2 : P v) : Ok t P := ⟨v, h, h2⟩
theorem Ok.eq {t : M α} {v : α} (h : Ok t fun x => x = v) : t = .ok v := by obtain ⟨x, h1, h2⟩ := h; rw [h1, h2]
theorem Ok.imp {t : M α} {P Q : α → Prop} (h : Ok t P) (hi : ∀ v, P v → Q v) : Ok t Q := by obtain ⟨x, h1, h2⟩ := h; exact ⟨x, h1, hi x h2⟩
theorem Ok.bind {t : M α} {P : α → Prop} {k : α → M β} {Q : β → Prop} (h : Ok t P) (h2 : ∀ v, P v → Ok (k v) Q) : Ok (t.bind k) Q := by
  obtain ⟨v, rfl, h⟩ := h; exact h2 v h
theorem Ok.g {b : Bool} {x y : M α} {Q : α → Prop} (h : b = true) (h2 : Ok x Q) : Ok (grd b x y) Q := by rw [h]; exact h2
def Tr (t : TR ρ κ σ) (N : σ → Prop) (V : ρ → Prop) (Kb Kc : κ → Prop) : Prop := match t with
  | .nx s => N s
  | .rt v => V v
  | .bk s => Kb s
  | .ct s => Kc s
  | .exc _ => False
  | .stk => False
variable {N : σ → Prop} {V : ρ → Prop} {Kb Kc : κ → Prop}
theorem Tr.imp {t : TR ρ κ σ} {N' : σ → Prop} {V' : ρ → Prop} {Kb' Kc' : κ → Prop} (h : Tr t N V Kb Kc) (h1 : ∀ s, N s → N' s) (h2 : ∀ s, V s → V' s) (h3 : ∀ s, Kb s → Kb' s) (h4 : ∀ s, Kc s → Kc' s) : Tr t N' V' Kb' Kc' := by
  cases t with
  | nx s => exact h1 s h
  | rt s => exact h2 s h
  | bk s => exact h3 s h
  | ct s => exact h4 s h
  | exc c => exact h
  | stk => exact h
theorem Tr.t {t : M α} {P : α → Prop} {k : α → TR ρ κ σ} (h : Ok t P) (h2 : ∀ v, P v → Tr (k v) N V Kb Kc) : Tr (thn t k) N V Kb Kc := by
  obtain ⟨v, rfl, h⟩ := h; exact h2 v h
theorem Tr.te {t : M α} {v : α} {k : α → TR ρ κ σ} (h : t = .ok v) (h2 : Tr (k v) N V Kb Kc) : Tr (thn t k) N V Kb Kc := by rw [h]; exact h2
theorem Tr.s {t : TR ρ κ τ} {N' : τ → Prop} {k : τ → TR ρ κ σ} (h : Tr t N' V Kb Kc) (h2 : ∀ s, N' s → Tr (k s) N V Kb Kc) : Tr (sq t k) N V Kb Kc := by
  cases t with
  | nx s => exact h2 s h
  | rt s => exact h
  | bk s => exact h
  | ct s => exact h
  | exc c => exact h
  | stk => exact h
theorem Tr.ite {b : Bool} {x y : TR ρ κ σ} (h1 : b = true → Tr x N V Kb Kc) (h2 : b = false → Tr y N V Kb Kc) : Tr (if b then x else y) N V Kb Kc := by
  cases b with
  | true => exact h1 rfl
  | false => exact h2 rfl
theorem Tr.for {f : α → σ → TR ρ σ σ} (Inv : List α → List α → σ → Prop) (hs : ∀ pre a rest s, Inv pre (a :: rest) s → Tr (f a s) (Inv (pre ++ [a]) rest) V N (Inv (pre ++ [a]) rest)) (he : ∀ pre s, Inv pre [] s → N s) : ∀ (l pre : List α) (s : σ), Inv pre l s → Tr (forT f l s : TR ρ κ σ) N V Kb Kc
  | [], pre, s, h => he pre s h
  | a :: l, pre, s, h => by
    have h1 := hs pre a l s h
    unfold forT
    cases q : f a s with
    | nx s => rw [q] at h1; exact Tr.for Inv hs he l _ s h1
    | ct s => rw [q] at h1; exact Tr.for Inv hs he l _ s h1
    | bk s => rw [q] at h1; exact h1
    | rt v => rw [q] at h1; exact h1
    | exc c => rw [q] at h1; exact h1
    | stk => rw [q] at h1; exact h1
theorem Tr.forall {f : α → σ → TR ρ σ σ} {l : List α} {s : σ} (P : σ → Prop) (h0 : P s) (hs : ∀ a, a ∈ l → ∀ s, P s → Tr (f a s) P V N P) (he : ∀ s, P s → N s) : Tr (forT f l s : TR ρ κ σ) N V Kb Kc :=
  Tr.for (fun _ rest s => P s ∧ ∀ a ∈ rest, a ∈ l) (fun pre a rest s ⟨h1, h2⟩ => (hs a (h2 a List.mem_cons_self) s h1).imp (fun s h => ⟨h, fun b hb => h2 b (List.mem_cons_of_mem _ hb)⟩) (fun _ h => h) (fun _ h => h) (fun s h => ⟨h, fun b hb => h2 b (List.mem_cons_of_mem _ hb)⟩)) (fun _ s h => he s h.1) l [] s ⟨h0, fun _ h => h⟩
theorem Tr.wh {c : σ → M Bool} {f : σ → TR ρ σ σ} (Inv : σ → Prop) (μ : σ → Nat) (hc : ∀ s, Inv s → Ok (c s) fun b => (b = true → Tr (f s) (fun s' => Inv s' ∧ μ s' < μ s) V N (fun s' => Inv s' ∧ μ s' < μ s)) ∧ (b = false → N s)) : ∀ (n : Nat) (s : σ), Inv s → μ s < n → Tr (whT c f n s : TR ρ κ σ) N V Kb Kc
  | 0, s, _, h => absurd h (Nat.not_lt_zero _)
  | n + 1, s, hi, h => by
    obtain ⟨b, h1, h2, h3⟩ := hc s hi
    unfold whT
    rw [h1]
    cases b with
    | false => exact h3 rfl
    | true =>
      have h4 := h2 rfl
      dsimp only
      cases q : f s with
      | nx s' => rw [q] at h4; exact Tr.wh Inv μ hc n s' h4.1 (Nat.lt_of_lt_of_le h4.2 (Nat.le_of_lt_succ h))
      | ct s' => rw [q] at h4; exact Tr.wh Inv μ hc n s' h4.1 (Nat.lt_of_lt_of_le h4.2 (Nat.le_of_lt_succ h))
      | bk s' => rw [q] at h4; exact h4
      | rt v => rw [q] at h4; exact h4
      | exc c => rw [q] at h4; exact h4
      | stk => rw [q] at h4; exact h4
theorem Ok.fin {t : TR ρ κ ρ} {P : ρ → Prop} (h : Tr t P P (fun _ => False) (fun _ => False)) : Ok (Ty.finT t) P := by
  cases t with
  | nx s => exact ⟨s, rfl, h⟩
  | rt s => exact ⟨s, rfl, h⟩
  | bk s => exact h.elim
  | ct s => exact h.elim
  | exc c => exact h.elim
  | stk => exact h.elim
theorem Ok.finx {t : TR ρ κ ρ} {P : ρ → Prop} (h : Tr t P P (fun _ => False) (fun _ => False)) : Ok (Ty.finX t) P := by
  cases t with
  | nx s => exact ⟨s, rfl, h⟩
  | rt s => exact ⟨s, rfl, h⟩
  | bk s => exact h.elim
  | ct s => exact h.elim
  | exc c => exact h.elim
  | stk => exact h.elim
theorem sz {n : Nat} (h : n ≤ 1000000) : szOk n = true := szOk_le (by omega)
theorem okn {i : Int} (h1 : -1000000000 ≤ i) (h2 : i ≤ 1000000000) : okI i = true := okI_of (by omega) (by omega)
theorem okj {i : Int} (h1 : 0 < i) (h2 : i ≤ 1000000000) : okJ i = true := okJ_of h1 (by omega)
theorem atM_nat {l : List α} {n : Nat} (h : n < l.length) : atM l (n : Int) = .ok l[n] := by
  unfold atM
  rw [atI_nat, List.getElem?_eq_getElem h]; rfl
theorem atM_some {l : List α} {n : Nat} {a : α} (h : l[n]? = some a) : atM l (n : Int) = .ok a := by
  unfold atM
  rw [atI_nat, h]; rfl
theorem atM_int {l : List α} {i : Int} (h0 : 0 ≤ i) (h : i < l.length) : atM l i = .ok (l[i.toNat]'(by omega)) := by
  obtain ⟨n, rfl⟩ := Int.eq_ofNat_of_zero_le h0
  exact atM_nat (by omega)
theorem atM_zero {a : α} {l : List α} : atM (a :: l) 0 = .ok a := atM_some (n := 0) rfl
theorem setM_nat {l : List α} {n : Nat} {a : α} (h : n < l.length) : setM l (n : Int) a = .ok (l.set n a) := by
  unfold setM
  rw [show ixN l.length (n : Int) = some n from by unfold ixN; simp [h]]
theorem appM_ok {l : List α} {a : α} (h : l.length ≤ 100000) : appM l a = .ok (l ++ [a]) := by unfold appM; rw [sz (by omega)]; rfl
theorem extM_ok {l r : List α} (h : l.length + r.length ≤ 1000000) : extM l r = .ok (l ++ r) := by unfold extM; rw [sz h]; rfl
theorem remM_ok {l : List Int} {x : Int} (h : x ∈ l) : remM l x = .ok (l.erase x) := by
  unfold remM
  rw [List.contains_iff_mem.mpr h]; rfl
theorem rngT_nat (n : Nat) : rngT 0 (n : Int) = (List.range n).map fun (i : Nat) => (i : Int) := by
  unfold rngT
  rw [show ((n : Int) - 0).toNat = n by omega]
  exact List.map_congr_left fun a _ => by omega
theorem rngM_nat {n : Nat} (h : n ≤ 1000000) : rngM 0 (n : Int) = .ok ((List.range n).map fun (i : Nat) => (i : Int)) := by
  unfold rngM okR
  rw [okn (by omega) (by omega), okn (by omega) (by omega), decide_eq_true (by rw [lim_eq, sizeLine_eq]; omega)]
  show R.ok (rngT 0 n) = _
  rw [rngT_nat]
theorem repM_ok {l : List α} {n : Nat} (h : l.length * n ≤ 1000000) (h2 : n ≤ 1000000) : repM l (n : Int) = .ok (List.replicate n l).flatten := by
  unfold repM
  rw [okn (by omega) (by omega), Bool.true_and, decide_eq_true (by rw [lim_eq, sizeLine_eq, Int.toNat_natCast]; omega), Int.toNat_natCast]; rfl
theorem repM_one {a : α} {n : Nat} (h2 : n ≤ 1000000) : repM [a] (n : Int) = .ok (List.replicate n a) := by
  rw [repM_ok (by simpa using h2) h2]
  congr 1
  induction n with
  | zero => rfl
  | succ n ih => rw [List.replicate_succ, List.flatten_cons, ih (by omega), List.replicate_succ]; rfl
theorem modM_ok {a b : Int} (h : 0 < b) : modM a b = .ok (a % b) := by unfold modM; rw [decide_eq_true h]; rfl
theorem divM_ok {a b : Int} (h : 0 < b) (h2 : b ≤ 1000000000) : divM a b = .ok (a / b) := by unfold divM; rw [okj h h2]; rfl
theorem lcM_ok {p : α → M Bool} {f : α → M β} {q : α → Bool} {g : α → β} : ∀ {l : List α}, (∀ a ∈ l, p a = .ok (q a) ∧ (q a = true → f a = .ok (g a))) → lcM p f l = .ok ((l.filter q).map g)
  | [], _ => rfl
  | a :: l, h => by
    obtain ⟨h1, h2⟩ := h a List.mem_cons_self
    have ih := lcM_ok fun b hb => h b (List.mem_cons_of_mem _ hb)
    unfold lcM
    rw [h1]
    cases hq : q a with
    | true =>
      dsimp only
      rw [h2 hq, ih]
      dsimp only
      rw [List.filter_cons_of_pos hq]; rfl
    | false =>
      dsimp only
      rw [ih, List.filter_cons_of_neg (by rw [hq]; exact Bool.false_ne_true)]
theorem lcM_map {f : α → M β} {g : α → β} {l : List α} (h : ∀ a ∈ l, f a = .ok (g a)) : lcM (fun _ => .ok true) f l = .ok (l.map g) := by
  rw [lcM_ok (q := fun _ => true) fun a ha => ⟨rfl, fun _ => h a ha⟩, (List.filter_eq_self.mpr fun _ _ => rfl : l.filter (fun _ => true) = l)]
theorem lcM_Ok {f : α → M β} {P : α → β → Prop} : ∀ {l : List α}, (∀ a ∈ l, Ok (f a) (P a)) → Ok (lcM (fun _ => .ok true) f l) fun r => Paired P l r
  | [], _ => .ok .nil
  | a :: l, h => by
    obtain ⟨x, h1, h2⟩ := h a List.mem_cons_self
    obtain ⟨r, h3, h4⟩ := lcM_Ok fun b hb => h b (List.mem_cons_of_mem _ hb)
    unfold lcM
    dsimp only
    rw [h1, h3]
    exact .ok (.cons h2 h4)
theorem lcX_Ok {f : α → σ → M (β × σ)} {P : β → Prop} {I : σ → Prop} : ∀ {l : List α} {s : σ}, I s → (∀ a ∈ l, ∀ s, I s → Ok (f a s) fun v => P v.1 ∧ I v.2) → Ok (lcX f l s) fun v => (v.1.length = l.length ∧ ∀ x ∈ v.1, P x) ∧ I v.2
  | [], s, h0, _ => .ok ⟨⟨rfl, fun x h => by cases h⟩, h0⟩
  | a :: l, s, h0, h => by
    obtain ⟨⟨x, s1⟩, h1, h2, h3⟩ := h a List.mem_cons_self s h0
    obtain ⟨⟨r, s2⟩, h4, ⟨h5, h6⟩, h7⟩ := lcX_Ok (l := l) h3 fun b hb => h b (List.mem_cons_of_mem _ hb)
    unfold lcX
    rw [h1]
    dsimp only
    rw [h4]
    refine .ok ⟨⟨by rw [List.length_cons, List.length_cons]; exact congrArg (· + 1) h5, fun y hy => ?_⟩, h7⟩
    rcases List.mem_cons.mp hy with rfl | hy
    · exact h2
    · exact h6 y hy
theorem idxM_of [DecidableEq α] {l : List α} {x : α} {j : Nat} (h : l.findIdx? (fun z => decide (z = x)) = some j) : idxM l x = .ok (j : Int) := by unfold idxM; rw [h]
theorem fuelW_gt {n : Nat} (h : n < 1000) : n < fuelW := Nat.lt_of_lt_of_le h fuelW_ge
end
end FD.Ty


set_option Elab.async false
set_option linter.all false
set_option maxRecDepth 100000
namespace FD.Ty
open PySem L2 FD
section
variable {α β γ δ ρ κ σ τ : Type}
def anM (sv : Bool) (p f : α → M Bool) : List α → M Bool
  | [] => .ok (!sv)
  | a :: l => match p a with
    | .ok true => match f a with
      | .ok c => match c == sv with
        | true => .ok sv
        | false => anM sv p f l
      | _ => .stk
    | .ok false => anM sv p f l
    | _ => .stk
theorem anP_typed {sv : Bool} {tgt : D → En → Option En} {tt : En → RB} {el : En → RP} {env : En} {d : α → D} {p f : α → M Bool} (hb : ∀ a, ∃ e1, tgt (d a) env = some e1 ∧ EG (tt e1) (p a) id ∧ EG (el e1) (f a) (sh dB)) :
    ∀ l : List α, EG (anP sv tgt tt el env (l.map d)) (anM sv p f l) id
  | [] => rfl
  | a :: l => by
    obtain ⟨e1, h1, h2, h3⟩ := hb a
    rw [List.map_cons]
    unfold anP anM
    rw [h1]
    dsimp only
    cases hp : p a with
    | ok b =>
      rw [hp] at h2
      rw [show tt e1 = .ok b from h2]
      cases b with
      | false => exact anP_typed hb l
      | true =>
        dsimp only
        cases hf : f a with
        | ok c =>
          rw [hf] at h3
          rw [show el e1 = .ok (sh dB c) from h3]
          dsimp only [asB]
          cases c == sv with
          | true => exact rfl
          | false => exact anP_typed hb l
        | exc c u => trivial
        | stk => trivial
    | exc c u => trivial
    | stk => trivial
theorem EG_an {sv : Bool} {vs : List Nat} {it : En → R Unit (List D)} {tgt : D → En → Option En} {tt : En → RB} {el : En → RP} {env : En} {t : M (List α)} {d : α → D} {p f : α → M Bool} (hi : EG (it env) t (List.map d))
    (hb : ∀ a, ∃ e1, tgt (d a) (wipeE env vs) = some e1 ∧ EG (tt e1) (p a) id ∧ EG (el e1) (f a) (sh dB)) : EG (bAn sv vs it tgt tt el env) (t.bind fun l => anM sv p f l) (sh dB) := by
  unfold bAn
  refine hi.bind fun l => ?_
  have := anP_typed (sv := sv) hb l
  cases e : anM sv p f l with
  | ok b => rw [e] at this; rw [show anP sv tgt tt el (wipeE env vs) (l.map d) = .ok b from this]; exact rfl
  | exc c u => rw [e] at this; exact absurd this anP_ok
  | stk => trivial
theorem anM_any (p f : α → Bool) : ∀ l : List α, anM true (fun a => .ok (p a)) (fun a => .ok (f a)) l = .ok (l.any fun a => p a && f a)
  | [] => rfl
  | a :: l => by
    unfold anM
    dsimp only
    rw [List.any_cons]
    cases p a with
    | false => rw [Bool.false_and, Bool.false_or]; exact anM_any p f l
    | true =>
      dsimp only
      cases f a with
      | true => rfl
      | false => exact anM_any p f l
theorem EG_anyp {vs : List Nat} {it : En → R Unit (List D)} {tgt : D → En → Option En} {tt : En → RB} {el : En → RP} {env : En} {l : List α} {d : α → D} {p f : α → Bool} (hi : EG (it env) (.ok l) (List.map d))
    (hb : ∀ a, ∃ e1, tgt (d a) (wipeE env vs) = some e1 ∧ EG (tt e1) (.ok (p a)) id ∧ EG (el e1) (.ok (f a)) (sh dB)) : EG (bAn true vs it tgt tt el env) (.ok (l.any fun a => p a && f a)) (sh dB) := by
  rw [← anM_any]; exact EG_an hi hb
theorem EG_notV {f : En → RP} {env : En} {t : M Bool} (h : EG (f env) t (sh dB)) : EG (bNotV f env) (t.bind fun b => .ok (!b)) (sh dB) := by
  unfold bNotV
  exact h.bind fun b => rfl
theorem EG_notVp {f : En → RP} {env : En} {b : Bool} (h : EG (f env) (.ok b) (sh dB)) : EG (bNotV f env) (.ok (!b)) (sh dB) := EG_notV h
end
end FD.Ty
namespace FD
@[reducible] def gtI : Int → Int → Bool := fun a b => decide (a > b)
@[reducible] def ltI : Int → Int → Bool := fun a b => decide (a < b)
end FD


set_option Elab.async false
set_option linter.all false
set_option maxRecDepth 100000
namespace FD
noncomputable section
open PySem PySem.Spec L2
section
variable {X : Cx} {W : Wd} {Wx : WX} {G G' H H' : Hp} {env env' : En} {σ σ' : St} {Fs Fs' : Nat → Fp} {F F' : Fp}
def oLenK : List O → Option O
  | [.sh (.dK kvs)] => some (.sh (.int (kvs.length : Nat)))
  | [.dK kvs] => some (.sh (.int (kvs.length : Nat)))
  | _ => none
theorem call_lenK : CallR X (.builtin "len") (fun xs H Q => ∃ a kvs, xs = [V.ref a] ∧ Rd H a (.dK kvs) ∧ Q (.int (kvs.length : Nat)) H) := by
  intro pins s σ H vs us Q I r h
  obtain ⟨a, kvs, rfl, e, q⟩ := h
  obtain rfl := Vals.ref1 r
  exact d_len I e fun t s' I' => ⟨.int (kvs.length : Nat), H, I', ⟨t, rfl⟩, q⟩
theorem opN_lenK : OpN W (fun xs H Q => ∃ a kvs, xs = [V.ref a] ∧ Rd H a (.dK kvs) ∧ Q (.int (kvs.length : Nat)) H) oLenK := by
  intro G H xs z vs Q le b r e q
  unfold oLenK at e
  split at e
  · cases e
    cases r with
    | cons r1 r2 =>
      cases r2
      obtain ⟨F1, r1⟩ := r1
      cases rp_sh r1 with
      | @dK _ p ws h1 h2 h3 =>
        have hl : ws.length = _ := (by simpa using congrArg List.length h2 : _ = ws.length).symm
        refine ⟨p, ws, rfl, .inl (le _ _ h1), ?_⟩
        rw [hl]
        exact q _ G H Emp (Step.refl le b) (.sh' (.int _))
  · cases e
    cases r with
    | cons r1 r2 =>
      cases r2
      obtain ⟨F1, r1⟩ := r1
      cases r1 with
      | @dK _ p ws _ Fs' g h1 h2 _ _ _ _ =>
        have hl : ws.length = _ := (by simpa using congrArg List.length h2 : _ = ws.length).symm
        refine ⟨p, ws, rfl, .inl h1, ?_⟩
        rw [hl]
        exact q _ G H Emp (Step.refl le b) (.sh' (.int _))
  · cases e
theorem SV_lenK {f : En → R Unit (List O)} {p pos : Pos} {e : Expr} {es : List Expr} (hg : Gl X "len") (hm : X.mg "len" = none) (ha : SA X W Wx f (e :: es)) (he : starEach (e :: es) X.env = (false, eval e X.env) :: starEach es X.env := by rfl) (hpl : (backTo pos (starEach es X.env)).any (·.1) = false := by rfl) :
    SV X W Wx (bN oLenK f) (.Call (.Name "len" p) (e :: es) [] pos) := SV_callB (call_lenK (X := X)) (opN_lenK (W := W)) hg hm (by decide +kernel) ha (by decide) (by decide) he hpl
end
end
end FD
namespace FD.Ty
open PySem L2 FD
end FD.Ty


set_option Elab.async false
set_option linter.all false
set_option maxRecDepth 100000
namespace FD
open PySem L2 LamX
noncomputable def noTb (ts : List Addr) (H : Hp) : Hp := fun b => open Classical in if b ∈ ts then some (TabE b) else H b
noncomputable def reTb (ts : List Addr) (h : Heap) (H : Hp) : Hp := fun b => open Classical in if b ∈ ts then (match h.get? b with
  | some ⟨_, _, .fields ps, _⟩ => some (.tbl ps)
  | _ => none) else H b
section
variable {P : Program} {w : World} {K : PySem.W.Frag} {mg : Str → Option Value} {base : Heap} {CX : CXT} {k : Nat} {f : Addr} {fd : FuncData} {ps : List Str} {sp sp' : Sp} {ts : List Addr}
theorem noTb_in {H : Hp} {b : Addr} (h : b ∈ ts) : noTb ts H b = some (TabE b) := if_pos h
theorem noTb_out {H : Hp} {b : Addr} (h : b ∉ ts) : noTb ts H b = H b := if_neg h
theorem FnOk.untab (F : FnOk P w K mg base CX k f fd ps sp) (hl : ∀ vs H Q E, sp' vs H Q E → vs.length = ps.length)
    (hsp : ∀ vs H Q E, sp' vs H Q E → (∀ b ∈ ts, H b = some (.tbl #[])) ∧ sp vs (noTb ts H) (fun v H' => (∀ b ∈ ts, H' b = some (TabE b)) ∧ ∀ H'', Q v H'') (fun _ _ _ => False)) (hCX : ∀ outer H s e s', CX outer H s (fun _ _ _ => False) e s' → False) : FnOk P w K mg base CX k f fd ps sp' := by
  refine ⟨hl, fun A outer s H args us vs Q E hr e0 hb hv hs => ?_⟩
  obtain ⟨hT, hs2⟩ := hsp vs H Q E hs
  have nin : ∀ b, H b = none → b ∉ ts := fun b n h => by rw [hT b h] at n; cases n
  have not : ∀ b o, H b = some o → (∀ qs, o ≠ .tbl qs) → b ∉ ts := fun b o e n h => by rw [hT b h] at e; cases e; exact n _ rfl
  have ok0 : HOk P w (noTb ts H) s.heap := fun b o e => by
    by_cases hb : b ∈ ts
    · rw [noTb_in hb] at e
      cases e
      have z : s.heap.get? b = some { cls := .none, data := .fields #[] } := e0.hok b _ (hT b hb)
      exact ⟨⟨#[], z, True.intro⟩, ⟨_, z⟩, fun h1 h2 ⟨qs, e, t⟩ st => ⟨qs, st _ e, t⟩⟩
    · rw [noTb_out hb] at e
      exact (e0.hok b o e).stay (fun _ _ _ q => q) (fun c q => by rw [noTb_out (not c _ q fun _ z => by cases z)]; exact q) fun c xs q => by rw [noTb_out (not c _ q fun _ z => by cases z)]; exact q
  have e1 : Env0 P w K mg base A outer s (noTb ts H) := ⟨e0.frames, e0.mod, fun b o e => ⟨(e0.bs b o e).1, by rw [noTb_out (nin b (e0.bs b o e).2)]; exact (e0.bs b o e).2⟩, e0.bsz, e0.funs, fun b hb => by rw [noTb_out (nin b (e0.frf b hb))]; exact e0.frf b hb, ok0, e0.bare⟩
  refine codeAny_mono (F.run A outer s (noTb ts H) args us vs _ _ hr e1 hb hv hs2) fun r s' h => ?_
  cases r with
  | error e => exact (hCX _ _ _ _ _ h).elim
  | ok fl =>
    cases fl with
    | next => exact False.elim h
    | brk => exact False.elim h
    | cont => exact False.elim h
    | ret u =>
      obtain ⟨v, H', os, bare, un, hok, rv, hE, q⟩ := h
      have at_ : ∀ b, b ∈ ts → ∃ qs : Array Value, s'.heap.get? b = some { cls := .none, data := .fields qs } := fun b hb => by
        obtain ⟨⟨qs, z, _⟩, _, _⟩ := (show ObjOk P w H' s'.heap b (.ext fun h => ∃ ps : Array Value, h.get? b = some { cls := .none, data := .fields ps } ∧ TriplesOk ps.toList) from hok b _ (hE b hb))
        exact ⟨qs, z⟩
      have rin : ∀ b, b ∈ ts → ∃ qs, s'.heap.get? b = some { cls := .none, data := .fields qs } ∧ reTb ts s'.heap H' b = some (.tbl qs) := fun b hb => by
        obtain ⟨qs, z⟩ := at_ b hb
        refine ⟨qs, z, ?_⟩
        unfold reTb
        rw [if_pos hb, z]
      have rout : ∀ b, b ∉ ts → reTb ts s'.heap H' b = H' b := fun b hb => if_neg hb
      have not' : ∀ b o, H' b = some o → o ≠ TabE b → b ∉ ts := fun b o e n h => by
        rw [hE b h] at e
        exact n (Option.some.inj e).symm
      refine ⟨v, reTb ts s'.heap H', os, bare, ⟨fun b o e n hb hx => un.keep b o e (by rw [noTb_out (nin b n)]; exact n) hb hx, fun b o e n hb hx => un.slot b o e (by rw [noTb_out (nin b n)]; exact n) hb hx, fun b o e n hx => ?_, un.there, fun b xs e => ?_, fun b o xs e => ?_, fun b qs e => ?_⟩, fun b o e => ?_, rv, q _⟩
      · rw [rout b (nin b n)]
        exact un.free b o e (by rw [noTb_out (nin b n)]; exact n) hx
      · have hb := not b _ e fun _ z => by cases z
        rw [rout b hb]
        exact un.tups b xs (by rw [noTb_out hb]; exact e)
      · have hb := not b _ e fun _ z => by cases z
        rw [rout b hb]
        exact un.frzs b o xs (by rw [noTb_out hb]; exact e)
      · by_cases hb : b ∈ ts
        · rw [hT b hb] at e
          cases e
          obtain ⟨qs, _, z⟩ := rin b hb
          exact ⟨qs, by rw [z, Array.empty_append]⟩
        · rw [rout b hb]
          exact un.tbls b qs (by rw [noTb_out hb]; exact e)
      · by_cases hb : b ∈ ts
        · obtain ⟨qs, z1, z2⟩ := rin b hb
          rw [z2] at e
          cases e
          exact z1
        · rw [rout b hb] at e
          have tne : ∀ c u, H' c = some u → (∀ φ, u ≠ .ext φ) → c ∉ ts := fun c u e n => not' c u e fun z => by
            unfold TabE at z
            exact n _ z
          exact (hok b o e).stay (fun _ _ _ q => q) (fun c q => by rw [rout c (tne c _ q fun φ z => by cases z)]; exact q) fun c xs q => by rw [rout c (tne c _ q fun φ z => by cases z)]; exact q
end
def gOf (H : Hp) : Hp := fun b => match H b with
  | some (.tbl _) => none
  | x => x
theorem gOf_some {H : Hp} {b : Addr} {o : HO} (h : H b = some o) (n : NT o) : gOf H b = some o := by
  unfold gOf
  rw [h]
  cases o <;> first | rfl | exact n.elim
def spLawT (K : PySem.W.Frag) (W : Wd) : Sp := fun vs H Q _ => ∃ (a : Addr) (ns : List Int), vs = [.ref a] ∧ SqL K H a (ns.map V.int) ∧ ns.length ≤ 63 ∧ (∀ b ∈ W.tabs, H b = some (TabE b)) ∧ Tabs W.lams H ∧ ∀ H', (∀ b ∈ W.tabs, H' b = some (TabE b)) → Q (.bl true) H'
theorem spLawT_of {K : PySem.W.Frag} {W : Wd} {T : List O → RC} {pr : List Nat} (hk : ∀ p vs, KL K p vs → W.C.kl p vs) (hT : Always T) : ∀ vs H Q E, spLawT K W vs H Q E → spC W 1 pr T vs H Q E := by
  rintro vs H Q E ⟨a, ns, rfl, hS, hlen, ht, hl, k⟩
  obtain ⟨fin, hf⟩ := hT ns hlen
  have le : Sub (gOf H) H := fun b o e => by
    unfold gOf at e
    split at e
    · cases e
    · exact e
  have hr : RpD W.C (gOf H) (.frl (ns.map .int)) (.ref a) := by
    refine .frl (vs := ns.map V.int) ?_ (by simp) fun i d v h1 h2 => ?_
    · rcases hS with h | h
      · rcases h with h | ⟨o, h⟩
        · exact .inl (.inl (gOf_some h True.intro))
        · exact .inl (.inr ⟨o, gOf_some h True.intro⟩)
      · exact .inr (hk _ _ h)
    · rw [List.getElem?_map] at h1 h2
      cases e : ns[i]? with
      | none => rw [e] at h1; cases h1
      | some x =>
        rw [e] at h1 h2
        cases h1; cases h2
        exact .int x
  refine ⟨gOf H, [.sh (.frl (ns.map .int))], fun _ => Emp, le, ⟨ht, hl, fun p hp => ?_⟩, ⟨rfl, fun i d v h1 h2 => ?_, fun _ _ _ _ h => h.elim, fun _ _ h => h.elim⟩, rfl, ?_⟩
  · obtain ⟨ps, h, _⟩ := hl p hp
    unfold gOf
    rw [h]
  · cases i with
    | zero =>
      cases h1; cases h2
      exact .sh hr fun _ h => h
    | succ i => cases h1
  · rw [hf]
    intro v G' H' F1 FB s r _ _
    cases r with
    | sh r _ =>
      cases r
      exact k H' s.b.tabs
def spLawE (K : PySem.W.Frag) (ts : List Addr) : Sp := fun vs H Q _ => ∃ (a : Addr) (ns : List Int), vs = [.ref a] ∧ SqL K H a (ns.map V.int) ∧ ns.length ≤ 63 ∧ (∀ b ∈ ts, H b = some (.tbl #[])) ∧ ∀ H', Q (.bl true) H'
theorem law_untab {P : Program} {w : World} {K : PySem.W.Frag} {mg : Str → Option Value} {base : Heap} {CX : CXT} {k : Nat} {f : Addr} {fd : FuncData} {x : Str} {W : Wd} (F : FnOk P w K mg base CX k f fd [x] (spLawT K W)) (hd : ∀ p ∈ W.lams, p.1 ∉ W.tabs) (hCX : ∀ outer H s e s', CX outer H s (fun _ _ _ => False) e s' → False) :
    FnOk P w K mg base CX k f fd [x] (spLawE K (W.tabs ++ W.lams.map (·.1))) := by
  refine FnOk.untab (ts := W.tabs) F (fun vs H Q E ⟨a, ns, e, _⟩ => by rw [e]; rfl) ?_ hCX
  rintro vs H Q E ⟨a, ns, rfl, hS, hlen, ht, q⟩
  have hT : ∀ b ∈ W.tabs, H b = some (.tbl #[]) := fun b hb => ht b (List.mem_append_left _ hb)
  have out : ∀ b o, H b = some o → (∀ qs, o ≠ .tbl qs) → noTb W.tabs H b = some o := fun b o e n => by
    rw [noTb_out fun h => by rw [hT b h] at e; cases e; exact n _ rfl]; exact e
  refine ⟨hT, a, ns, rfl, ?_, hlen, fun b hb => noTb_in hb, fun p hp => TabS.nil ?_, fun H' h => ⟨h, q⟩⟩
  · rcases hS with h | h
    · rcases h with h | ⟨o, h⟩
      · exact .inl (.inl (out _ _ h fun _ z => by cases z))
      · exact .inl (.inr ⟨o, out _ _ h fun _ z => by cases z⟩)
    · exact .inr h
  · rw [noTb_out (hd p hp)]
    exact ht _ (List.mem_append_right _ (List.mem_map.mpr ⟨p, hp, rfl⟩))
end FD


set_option Elab.async false
set_option linter.all false
set_option maxRecDepth 100000
namespace FD
open PySem L2 LamX
theorem tab_sep {ts : List Addr} {ls : List (Addr × Str)} {us : List Addr} (nd : us.Nodup) (e : us = ts ++ ls.map (·.1) := by rfl) : ∀ p ∈ ls, p.1 ∉ ts := by
  subst e
  intro p hp ht
  exact (List.nodup_append.mp nd).2.2 _ ht _ (List.mem_map.mpr ⟨p, hp, rfl⟩) rfl
theorem spLawE_of {K : PySem.W.Frag} {ts : List Addr} {cs : List (Addr × Addr)} (e : ts = cs.map (·.2)) : ∀ (H : Hp) (a : Addr) (ns : List Int), ns.length ≤ 63 → (∀ z ∈ ns, Builtin.Int.intBits z ≤ 1048576) → (∀ p ∈ cs, H p.2 = some (.tbl #[])) → SqL K H a (ns.map V.int) → spLawE K ts [.ref a] H (fun v _ => v = .bl true) fun _ _ _ => False := by
  subst e
  intro H a ns hl _ ht hS
  refine ⟨a, ns, rfl, hS, hl, fun b hb => ?_, fun _ => rfl⟩
  obtain ⟨p, hp, e⟩ := List.mem_map.mp hb
  rw [← e]
  exact ht p hp
end FD


set_option Elab.async false
set_option linter.all false
set_option maxRecDepth 100000
namespace FD.Ty
open PySem L2 FD
section
variable {α β γ δ ρ κ σ τ : Type} {F : ρ → O → En → Prop} {L : κ → En → Prop} {B : σ → En → Prop}
theorem SR_stk {env : En} {rest : En → RS} : SR (sCons sStk rest env) (TR.stk : TR ρ κ σ) F L B := True.intro
end
end FD.Ty


set_option Elab.async false
set_option linter.all false
set_option maxRecDepth 100000
namespace FD.Ty
open PySem L2 FD
section
variable {fs : List (Str × O)} {c i : Nat} {f : Str} {y : O}
end
theorem op_lenKo {α : Type} (d : α → D) (l : List (Int × α)) : EG (ofO (oLenK [oK d l])) (.ok (l.length : Int)) (sh dI) := by
  show R.ok _ = R.ok _
  simp only [oK, List.length_map]
theorem co_oL {a b : Type} {c : a → b} {e : a → O} {e' : b → O} (h : ∀ v, e v = e' (c v)) (l : List a) : oL e l = oL e' (l.map c) := by
  show O.lst (l.map e) = O.lst ((l.map c).map e')
  rw [List.map_map]
  congr 1
  exact List.map_congr_left fun x _ => h x
theorem op_tupleX {α : Type} (d : α → D) (l : Bool × List α) : EG (ofO (oTuple [sh (dX d) l])) (.ok l) (sh (dX d)) := rfl
theorem op_oLt (a b : Int) : EG (ofO (oLt (sh dI a) (sh dI b))) (.ok (decide (a < b))) (sh dB) := rfl
theorem op_oGt (a b : Int) : EG (ofO (oGt (sh dI a) (sh dI b))) (.ok (decide (b < a))) (sh dB) := rfl
theorem op_oGe (a b : Int) : EG (ofO (oGe (sh dI a) (sh dI b))) (.ok (decide (b ≤ a))) (sh dB) := rfl
end FD.Ty


set_option Elab.async false
set_option linter.all false
set_option maxRecDepth 100000
namespace FD.Ty
open PySem L2 FD
section
variable {α β γ δ ρ κ σ τ : Type} {F : ρ → O → En → Prop} {L : κ → En → Prop} {B : σ → En → Prop} {B' : τ → En → Prop}
end
end FD.Ty


set_option Elab.async false
set_option linter.all false
set_option maxRecDepth 100000
namespace FD
noncomputable section
open PySem PySem.Spec L2
section
variable {X : Cx} {W : Wd} {Wx : WX} {pr : List Nat} {G G' H H' : Hp} {env env' : En} {σ σ' : St} {Fs Fs' : Nat → Fp} {F F' : Fp}
end
end
end FD


set_option Elab.async false
set_option linter.all false
set_option maxRecDepth 100000
namespace FD
noncomputable section
open PySem PySem.Spec L2
section
variable {X : Cx} {W : Wd} {Wx : WX} {pr : List Nat} {G G' H H' : Hp} {env env' : En} {σ σ' : St} {Fs Fs' : Nat → Fp} {F F' : Fp}
end
end
end FD


set_option Elab.async false
set_option linter.all false
set_option maxRecDepth 100000
namespace FD.Ty
open PySem L2 FD
section
variable {α β γ δ ρ κ σ τ : Type}
end
end FD.Ty


set_option Elab.async false
set_option linter.all false
set_option maxRecDepth 100000
namespace FD
noncomputable section
open PySem PySem.Spec L2
section
variable {X : Cx} {W : Wd} {Wx : WX} {pr : List Nat} {G G' H H' : Hp} {env env' : En} {σ σ' : St} {Fs Fs' : Nat → Fp} {F F' : Fp}
end
end
end FD
namespace FD.Ty
open PySem L2 FD
section
variable {α β γ δ ρ κ σ τ : Type} {F : ρ → O → En → Prop} {L : κ → En → Prop} {B : σ → En → Prop}
end
end FD.Ty


set_option Elab.async false
set_option linter.all false
set_option maxRecDepth 100000
namespace FD
noncomputable section
open PySem PySem.Spec L2
section
variable {X : Cx} {W : Wd} {Wx : WX} {pr : List Nat} {G G' H H' : Hp} {env env' : En} {σ σ' : St} {Fs Fs' : Nat → Fp} {F F' : Fp}
end
end
end FD
namespace FD.Ty
open PySem L2 FD
section
variable {α β γ δ ρ κ σ τ : Type}
end
end FD.Ty


set_option Elab.async false
set_option linter.all false
set_option maxRecDepth 100000
namespace FD
noncomputable section
open PySem PySem.Spec L2
section
variable {X : Cx} {W : Wd} {Wx : WX} {pr : List Nat} {G G' H H' : Hp} {env env' : En} {σ σ' : St} {Fs Fs' : Nat → Fp} {F F' : Fp}
def minI : List Int → Option Int
  | [] => none
  | a :: l => some (l.foldl (fun m b => if b < m then b else m) a)
theorem minI_fold : ∀ (l : List Int) (a : Int), (l.foldl (fun m b => if b < m then b else m) a = a ∨ l.foldl (fun m b => if b < m then b else m) a ∈ l) ∧ l.foldl (fun m b => if b < m then b else m) a ≤ a ∧ ∀ b ∈ l, l.foldl (fun m b => if b < m then b else m) a ≤ b
  | [], a => ⟨.inl rfl, Int.le_refl _, fun b hb => by cases hb⟩
  | c :: l, a => by
    rw [List.foldl_cons]
    obtain ⟨h1, h2, h3⟩ := minI_fold l (if c < a then c else a)
    have h4 : (if c < a then c else a) ≤ a ∧ (if c < a then c else a) ≤ c := by split <;> omega
    refine ⟨?_, Int.le_trans h2 h4.1, fun b hb => ?_⟩
    · rcases h1 with h1 | h1
      · by_cases hc : c < a
        · rw [if_pos hc] at h1 ⊢; exact .inr (by rw [h1]; exact List.mem_cons_self)
        · rw [if_neg hc] at h1 ⊢; exact .inl h1
      · exact .inr (List.mem_cons_of_mem _ h1)
    · rcases List.mem_cons.mp hb with rfl | hb
      · exact Int.le_trans h2 h4.2
      · exact h3 b hb
theorem minI_some {l : List Int} {m : Int} (h : minI l = some m) : m ∈ l ∧ ∀ b ∈ l, m ≤ b := by
  cases l with
  | nil => cases h
  | cons a l =>
    cases h
    obtain ⟨h1, h2, h3⟩ := minI_fold l a
    refine ⟨?_, fun b hb => ?_⟩
    · rcases h1 with h1 | h1
      · exact List.mem_cons.mpr (.inl h1)
      · exact List.mem_cons_of_mem _ h1
    · rcases List.mem_cons.mp hb with rfl | hb
      · exact h2
      · exact h3 b hb
def oMinL : List O → Option O
  | [x] => (itemsD x).bind fun p => if p.1 then (intsD p.2).bind fun ns => (minI ns).map fun m => .sh (.int m) else none
  | _ => none
def oSum : List O → Option O
  | [x] => (itemsD x).bind fun p => if p.1 then (intsD p.2).bind fun ns => some (.sh (.int ns.sum)) else none
  | _ => none
theorem ints_of {K : PySem.W.Frag} {x z : O} {v : V} {F1 : Fp} {g : List Int → Option O} (le : Sub G H) (r : RpO W.C G H x v F1) (e : ((itemsD x).bind fun p => if p.1 then (intsD p.2).bind g else none) = some z) : ∃ p ns, v = .ref p ∧ SqL K H p (ns.map V.int) ∧ g ns = some z := by
  cases e1 : itemsD x with
  | none => rw [e1] at e; cases e
  | some p =>
    obtain ⟨bb, ds⟩ := p
    rw [e1, Option.bind_some] at e
    cases bb with
    | false => cases e
    | true =>
      rw [if_pos rfl] at e
      cases e2 : intsD ds with
      | none => rw [show intsD (true, ds).2 = none from e2] at e; cases e
      | some ns =>
        rw [show intsD (true, ds).2 = some ns from e2] at e
        obtain ⟨p, ws, rfl, hs, hp⟩ := itemsD_some (K := K) le r e1
        rw [intsD_some e2] at hp
        rw [ints_vals hp] at hs
        exact ⟨p, ns, rfl, by simpa using hs, e⟩
theorem v_minL (hc : X.calm = true) : CallR X (.builtin "min") (rMin X.K) ∧ OpN W (rMin X.K) oMinL := by
  refine ⟨cr_min hc, opN_1 (fun xs z h => ?_) fun G H x z v F1 Q le b r e q => ?_⟩
  · unfold oMinL at h
    split at h
    · exact ⟨_, rfl⟩
    · cases h
  · obtain ⟨p, ns, rfl, hs, e⟩ := ints_of (K := X.K) (g := fun ns => (minI ns).map fun m => .sh (.int m)) le r e
    cases e1 : minI ns with
    | none => rw [e1] at e; cases e
    | some m =>
      rw [e1] at e
      cases e
      obtain ⟨h1, h2⟩ := minI_some e1
      refine ⟨p, ns, rfl, hs, List.length_pos_of_mem h1, fun m' h3 h4 => ?_⟩
      have : m' = m := Int.le_antisymm (h4 m h1) (h2 m' h3)
      subst this
      exact q _ G H Emp (Step.refl le b) (.sh' (.int _))
theorem v_sum (hc : X.calm = true) : CallR X (.builtin "sum") (rSum X.K) ∧ OpN W (rSum X.K) oSum := by
  refine ⟨cr_sum hc, opN_1 (fun xs z h => ?_) fun G H x z v F1 Q le b r e q => ?_⟩
  · unfold oSum at h
    split at h
    · exact ⟨_, rfl⟩
    · cases h
  · obtain ⟨p, ns, rfl, hs, e⟩ := ints_of (K := X.K) (g := fun ns => some (.sh (.int ns.sum))) le r e
    cases e
    exact ⟨p, ns, rfl, hs, q _ G H Emp (Step.refl le b) (.sh' (.int _))⟩
theorem SV_minL {f : En → R Unit (List O)} {p pos : Pos} {e : Expr} {es : List Expr} (hc : X.calm = true) (hg : Gl X "min") (hm : X.mg "min" = none) (ha : SA X W Wx f (e :: es)) (he : starEach (e :: es) X.env = (false, eval e X.env) :: starEach es X.env := by rfl) (hpl : (backTo pos (starEach es X.env)).any (·.1) = false := by rfl) :
    SV X W Wx (bN oMinL f) (.Call (.Name "min" p) (e :: es) [] pos) := SV_callB (v_minL (W := W) (X := X) hc).1 (v_minL (W := W) (X := X) hc).2 hg hm (by decide +kernel) ha (by decide) (by decide) he hpl
theorem SV_sum {f : En → R Unit (List O)} {p pos : Pos} {e : Expr} {es : List Expr} (hc : X.calm = true) (hg : Gl X "sum") (hm : X.mg "sum" = none) (ha : SA X W Wx f (e :: es)) (he : starEach (e :: es) X.env = (false, eval e X.env) :: starEach es X.env := by rfl) (hpl : (backTo pos (starEach es X.env)).any (·.1) = false := by rfl) :
    SV X W Wx (bN oSum f) (.Call (.Name "sum" p) (e :: es) [] pos) := SV_callB (v_sum (W := W) (X := X) hc).1 (v_sum (W := W) (X := X) hc).2 hg hm (by decide +kernel) ha (by decide) (by decide) he hpl
end
end
end FD


set_option Elab.async false
set_option linter.all false
set_option maxRecDepth 100000
namespace FD.Ty
open PySem L2 FD
section
variable {α β γ δ ρ κ σ τ : Type}
theorem intsD_map (l : List Int) : intsD (l.map dI) = some l := by
  induction l with
  | nil => rfl
  | cons a l ih =>
    show (intsD (l.map dI)).map (a :: ·) = _
    rw [ih]; rfl
def minM (l : List Int) : M Int := ofO (minI l)
theorem op_minL {x : O} {l : List Int} (h : itemsD x = some (true, l.map dI)) : EG (ofO (oMinL [x])) (minM l) (sh dI) := by
  have : oMinL [x] = (minI l).map fun m => .sh (.int m) := by
    show (itemsD x).bind _ = _
    rw [h]
    show (intsD (l.map dI)).bind _ = _
    rw [intsD_map]; rfl
  rw [this]
  unfold minM
  cases minI l with
  | none => trivial
  | some m => exact rfl
theorem op_sum {x : O} {l : List Int} (h : itemsD x = some (true, l.map dI)) : EG (ofO (oSum [x])) (.ok l.sum) (sh dI) := by
  have : oSum [x] = some (.sh (.int l.sum)) := by
    show (itemsD x).bind _ = _
    rw [h]
    show (intsD (l.map dI)).bind _ = _
    rw [intsD_map]; rfl
  rw [this]
  exact rfl
end
end FD.Ty


set_option Elab.async false
set_option linter.all false
set_option maxRecDepth 100000
namespace FD
noncomputable section
open PySem PySem.Spec L2
section
open PyProof.Rows
variable {prog : Program} {w : World} {A : Around} {E : Value → Shared → Prop} {s : Shared}
end
section
variable {X : Cx} {W : Wd} {Wx : WX} {pr : List Nat} {G G' H H' : Hp} {env env' : En} {σ σ' : St} {Fs Fs' : Nat → Fp} {F F' : Fp}
end
end
end FD
namespace FD.Ty
open PySem L2 FD
end FD.Ty
namespace FD.Ty
open PySem L2 FD
end FD.Ty


set_option Elab.async false
set_option linter.all false
set_option maxRecDepth 100000
namespace FD
noncomputable section
open PySem PySem.Spec L2
section
variable {X : Cx} {W : Wd} {Wx : WX} {pr : List Nat} {G G' H H' : Hp} {env env' : En} {σ σ' : St} {Fs Fs' : Nat → Fp} {F F' : Fp}
end
end
end FD


set_option Elab.async false
set_option linter.all false
set_option maxRecDepth 100000
namespace FD
noncomputable section
open PySem PySem.Spec L2
section
variable {X : Cx} {W : Wd} {Wx : WX} {pr : List Nat} {G G' H H' : Hp} {env env' : En} {σ σ' : St} {Fs Fs' : Nat → Fp} {F F' : Fp}
structure ErrC (K : PySem.W.Frag) (mg : Str → Option Value) (x : Str) (C : Addr) : Prop where
  at_ : mg x = some (.ref C)
  ex : PySem.W.excIn K C [.type "ValueError", .type "Exception", .type "BaseException", .type "object"] "ValueError.__new__" = true
  keep : PySem.W.keepIn K (.ref C) = true
  sub : PySem.W.subIn K (.ref C) (.type "BaseException") = some true
  ty : PySem.W.typeIn K (.ref C) = some (.type "type")
end
end
end FD
namespace FD.Ty
open PySem L2 FD
section
variable {α β γ δ ρ κ σ τ : Type} {F : ρ → O → En → Prop} {L : κ → En → Prop} {B : σ → En → Prop}
end
end FD.Ty


set_option Elab.async false
set_option linter.all false
set_option maxRecDepth 100000
set_option maxHeartbeats 1000000
namespace L2
open PySem PySem.Spec PyProof.Rows LamX
section
variable {X : Cx}
def Word (K : PySem.W.Frag) (cls : Value) (Z : Str → Prop) : List (Addr × Str) → Prop
  | [] => False
  | (C, r) :: l => ∃ b, PySem.W.exmOne K cls (.ref C) = some b ∧ (b = true → Z r) ∧ (b = false → Word K cls Z l)
inductive Clauses (mg : Str → Option Value) (sg : Scope) : List ExceptHandler → List (Addr × Str) → Prop
  | nil : Clauses mg sg [] []
  | cons {e r : Str} {C : Addr} {j : Nat} {p4 p5 p6 p7 : Pos} {hds : List ExceptHandler} {l : List (Addr × Str)} (hge : sg.names.lookup e = some .globalImplicit) (hme : mg e = some (.ref C)) (hde : (e == ("__debug__" : Str)) = false) (t : Clauses mg sg hds l) :
      Clauses mg sg (.ExceptHandler (some (.Name e p4)) none [.Return (some (.Constant (.str r) j p5)) p6] p7 :: hds) ((C, r) :: l)
end
end L2


set_option Elab.async false
set_option linter.all false
set_option maxRecDepth 100000
set_option maxHeartbeats 1000000
namespace FD
noncomputable section
open PySem PySem.Spec L2 LamX
section
variable {X : Cx} {W : Wd} {Wx : WX} {pr : List Nat} {G G' H H' : Hp} {env env' : En} {σ σ' : St} {Fs Fs' : Nat → Fp} {F F' : Fp}
theorem Word.mono {K : PySem.W.Frag} {cls : Value} {Z Z' : Str → Prop} (hz : ∀ r, Z r → Z' r) : ∀ {l : List (Addr × Str)}, L2.Word K cls Z l → L2.Word K cls Z' l
  | [], h => h
  | (C, r) :: l, ⟨b, h1, h2, h3⟩ => ⟨b, h1, fun hb => hz r (h2 hb), fun hb => Word.mono hz (h3 hb)⟩
end
end
end FD


set_option Elab.async false
set_option linter.all false
set_option maxRecDepth 100000
set_option maxHeartbeats 1000000
namespace FD
noncomputable section
open PySem PySem.Spec L2 LamX
section
variable {X : Cx} {W : Wd} {Wx : WX} {pr : List Nat} {G G' H H' : Hp} {env env' : En} {σ σ' : St} {Fs Fs' : Nat → Fp} {F F' : Fp}
end
end
end FD


set_option Elab.async false
set_option linter.all false
set_option maxRecDepth 100000
set_option maxHeartbeats 1000000
namespace FD.Ty
open PySem L2 FD
abbrev Wrd : Type := {s : Str // PyData.strOk s = true}
@[reducible] def wrd (s : Str) (h : PyData.strOk s = true) : Wrd := ⟨s, h⟩
section
variable {α β γ δ : Type}
@[reducible] def dW : Wrd → D := fun w => .str w.1
end
example : Wrd := wrd "no such" (by decide +kernel)
end FD.Ty


set_option Elab.async false
set_option linter.all false
set_option maxRecDepth 100000
set_option maxHeartbeats 1000000
namespace FD.Ty
open PySem L2 FD
section
variable {α β γ δ ρ κ σ τ : Type} {F : ρ → O → En → Prop} {L : κ → En → Prop} {B : σ → En → Prop}
end
end FD.Ty


set_option Elab.async false
set_option linter.all false
set_option maxRecDepth 100000
set_option maxHeartbeats 1000000
namespace FD
noncomputable section
open PySem PySem.Spec L2
open PyProof.Rows (envOfC)
section
variable {P : Program} {w : World} {K : PySem.W.Frag} {mg : Str → Option Value} {base : Heap} {W : Wd}
end
section
variable {X : Cx} {W : Wd} {Wx : WX} {pr : List Nat} {G G' H H' : Hp} {env env' : En} {σ σ' : St} {Fs Fs' : Nat → Fp} {F F' : Fp}
end
end
end FD


set_option Elab.async false
set_option linter.all false
set_option maxRecDepth 100000
set_option maxHeartbeats 1000000
namespace FD
noncomputable section
open PySem PySem.Spec L2
section
open HT
open PyProof.Rows hiding St
variable {prog : Program} {w : World} {A : Around} {E : Value → Shared → Prop} {s : Shared}
end
section
variable {X : Cx} {W : Wd} {Wx : WX} {pr : List Nat} {G G' H H' : Hp} {env env' : En} {σ σ' : St} {Fs Fs' : Nat → Fp} {F F' : Fp}
end
end
end FD


set_option Elab.async false
set_option linter.all false
set_option maxRecDepth 100000
set_option maxHeartbeats 1000000
namespace FD.Ty
open PySem L2 FD
section
variable {α β γ δ ρ κ σ τ : Type}
end
end FD.Ty


set_option Elab.async false
set_option linter.all false
set_option maxRecDepth 100000
set_option maxHeartbeats 1000000
namespace FD.Ty
open PySem L2 FD
section
variable {α β γ δ ρ κ σ τ : Type}
end
end FD.Ty


set_option Elab.async false
set_option linter.all false
set_option maxRecDepth 100000
set_option maxHeartbeats 1000000
namespace FD.Ty
open PySem L2 FD
section
variable {α β γ δ ρ κ σ τ : Type}
end
end FD.Ty


set_option Elab.async false
set_option linter.all false
set_option maxRecDepth 100000
set_option maxHeartbeats 1000000
namespace FD.Ty
open PySem L2 FD
section
variable {α β γ δ ρ κ σ τ : Type}
end
end FD.Ty


set_option Elab.async false
set_option linter.all false
set_option maxRecDepth 100000
namespace FD
noncomputable section
open PySem PySem.Spec L2
section
variable {X : Cx} {W : Wd} {Wx : WX} {pr : List Nat} {G G' H H' : Hp} {env env' : En} {σ σ' : St} {Fs Fs' : Nat → Fp} {F F' : Fp}
theorem turns_it {J : It} {n : Nat} {Gd : Hp → Prop} {Y : Nat → Hp → V → Hp → Prop} (w : Walk J n Gd Y) {B : V → Hp → (Hp → Prop) → Prop} {Qd : Hp → Prop} {Hs : Hp} (I : Nat → Hp → Prop) (a : I 0 Hs) (b : ∀ i Hi, i ≤ n → I i Hi → Gd Hi)
    (c : ∀ i x Hi Hj, i < n → I i Hi → Y i Hi x Hj → B x Hj (I (i + 1))) (d : ∀ Hi, I n Hi → Qd Hi) :
    ∃ V1 : Nat → Nat → Hp → Prop, (∃ m, V1 0 m Hs) ∧ ∀ i m Hi, V1 i m Hi → (J.stop i Hi ∧ Qd Hi) ∨ (J.go i Hi ∧ ∃ N : Hp → Prop, (∀ Hj, N Hj → ∃ k, k < m ∧ V1 (i + 1) k Hj) ∧ ∀ x Hj, J.yld i Hi x Hj → B x Hj N) := by
  refine ⟨fun i m Hi => i ≤ n ∧ m = n - i ∧ I i Hi, ⟨n, Nat.zero_le _, by omega, a⟩, fun i m Hi h => ?_⟩
  obtain ⟨h1, h2, h3⟩ := h
  rcases Nat.lt_or_ge i n with z | z
  · exact .inr ⟨w.goes i Hi z (b i Hi h1 h3), I (i + 1), fun Hj y => ⟨n - (i + 1), by omega, z, rfl, y⟩, fun x Hj y => c i x Hi Hj z h3 (w.yields i Hi x Hj z (b i Hi h1 h3) y)⟩
  · have : i = n := Nat.le_antisymm h1 z
    subst this
    exact .inl ⟨w.stops Hi (b i Hi h1 h3), d Hi h3⟩
def lcP2 (tgt : D → En → Option En) (tt : En → RB) (vs1 : List Nat) (it1 : En → R Unit (List D)) (tgt1 : D → En → Option En) (tt1 : En → RB) (elt : En → RP) (env : En) : List D → List O → RP
  | [], acc => .ok (.lst acc)
  | d :: ds, acc => match tgt d env with
    | none => .stk
    | some e1 => match tt e1 with
      | .ok true => match it1 e1 with
        | .ok ds1 => if szOk (acc.length + ds1.length) then (lcP tgt1 tt1 elt (wipeE e1 vs1) ds1 acc).bind fun o => match o with
          | .lst acc2 => lcP2 tgt tt vs1 it1 tgt1 tt1 elt env ds acc2
          | _ => .stk
          else .stk
        | _ => .stk
      | .ok false => lcP2 tgt tt vs1 it1 tgt1 tt1 elt env ds acc
      | _ => .stk
def bLc2 (vs : List Nat) (it : En → R Unit (List D)) (tgt : D → En → Option En) (tt : En → RB) (vs1 : List Nat) (it1 : En → R Unit (List D)) (tgt1 : D → En → Option En) (tt1 : En → RB) (elt : En → RP) : En → RP := fun env => (it env).bind fun ds => lcP2 tgt tt vs1 it1 tgt1 tt1 elt (wipeE env vs) ds []
theorem PI_anyX {α : Type} {tg e : Expr} {t : α → TI} (h : ∀ a, PI X tg e (t a)) : PI X tg e (fun σ H Q => ∃ a, t a σ H Q) := ⟨fun pins s σ H Q I ⟨a, q⟩ => (h a).run pins s σ H Q I q⟩
theorem lcP2_core {n : Nat} {vs vs1 : List Nat} {Q : VK} {it it1 : En → R Unit (List D)} {tgt tgt1 : D → En → Option En} {tt tt1 : En → RB} {el : En → RP} (hlen : σ.length = n) (q : tV W Wx env (bLc2 vs it tgt tt vs1 it1 tgt1 tt1 el env) σ H Q) :
    tLc2 (tJk W Wx env (it env)) (tG W (outs vs n) tgt) (fun σ H Q => ∃ a, tT W WxF a (tt a) σ H Q) (fun σ H Q => ∃ a, tJ W WxF a (it1 a) σ H Q) (tG W (outs vs1 n) tgt1) (fun σ H Q => ∃ a, tT W WxF a (tt1 a) σ H Q) (fun σ H Q => ∃ a, tV W WxF a (el a) σ H Q) vs vs1 σ H Q := by
  obtain ⟨G, Fs, S, q⟩ := q
  refine ⟨G, Fs, S, ?_⟩
  unfold bLc2 at q
  cases e1 : it env with
  | stk => rw [e1] at q; exact q
  | exc c u => rw [e1] at q; exact q
  | ok ds =>
    rw [e1, bind_ok] at q
    intro J G1 H1 Kp s1 kp nt src D hD
    generalize hZ : lcP2 tgt tt vs1 it1 tgt1 tt1 el (wipeE env vs) ds [] = Z at q
    have qs : Z ≠ .stk := fun z => by rw [z] at q; exact q
    obtain ⟨Gd, Y, w, hGd, hY⟩ := id src
    obtain ⟨sA, rA⟩ := acc_new s1.le s1.b hD
    have S1 := S.step0 s1
    refine turns_it (Hs := upd H1 D (.lst [])) (Qd := fun H => Q (.ref D) H) w (fun i H' => ∃ G2 acc FD, Sim W G2 (wipeE env vs) (wipe σ vs) H' Fs ∧ Sub G1 G2 ∧ RpO W.C G2 H' (.lst acc) (.ref D) FD ∧ (∀ j a, Fs j a → ¬ FD a) ∧ Step W G1 H1 Emp G2 H' FD ∧ Sub Kp H' ∧
      Z = lcP2 tgt tt vs1 it1 tgt1 tt1 el (wipeE env vs) (ds.drop i) acc) ?_ ?_ ?_ ?_
    · refine ⟨G1, [], fun a => a = D, (S1.step0 sA).wipe _, fun _ _ h => h, rA, fun j a h e => ?_, sA, fun a o h => sA.h a o (kp a o h) (fun h => h) (nt a o h), hZ.symm⟩
      obtain ⟨_, o, h2, _⟩ := S1.ow j a h
      rw [e, hD] at h2; cases h2
    · rintro i H' hi' ⟨G2, acc, FD, S2, sb, _, _, _, kp', _⟩
      exact hGd H' (fun a o h => S2.le a o (sb a o h)) kp'
    · rintro i x H' H2 hi' ⟨G2, acc, FD, S2, sb, rD, dj, st, kp', eq⟩ hy
      obtain ⟨G3, d, hd, st3, rd⟩ := hY i G2 H' x H2 hi' sb S2.le S2.tb hy
      have hdr : ds.drop i = d :: ds.drop (i + 1) := by
        obtain ⟨h1, h2⟩ := List.getElem?_eq_some_iff.mp hd
        rw [List.drop_eq_getElem_cons h1, h2]
      rw [hdr] at eq
      unfold lcP2 at eq
      cases e3 : tgt d (wipeE env vs) with
      | none => rw [e3] at eq; exact (qs eq).elim
      | some env1 =>
        rw [e3] at eq
        dsimp only at eq
        refine ⟨G3, _, env1, Fs, d, S2.step0 st3, rd, e3, fun σ2 Fs2 S4 sub4 p4 => ⟨wipe_of (by rw [hlen]; exact p4), env1, G3, Fs2, S4, ?_⟩⟩
        have hl2 : σ2.length = n := by rw [p4.1, wipe_length, hlen]
        have rD3 := rD.step0 st3
        have st' : Step W G1 H1 Emp G3 H2 FD := st.trans (st3.wide (fun _ h => h.elim) fun a h => .inl h)
        cases e4 : tt env1 with
        | stk => rw [e4] at eq; exact (qs eq).elim
        | exc c u => rw [e4] at eq; exact (qs eq).elim
        | ok b =>
          rw [e4] at eq
          intro G5 H5 s5
          have rD5 := rD3.step0 s5
          have st5 : Step W G1 H1 Emp G5 H5 FD := st'.trans (s5.wide (fun _ h => h.elim) fun a h => .inl h)
          have S5 := S2.step0 (st3.trans s5)
          have sb5 : Sub G1 G5 := fun a o h => s5.g a o (st3.g a o (sb a o h))
          have kp5 : Sub Kp H5 := fun a o h => s5.h a o (st3.h a o (kp' a o h) (fun h => h) (nt a o h)) (fun h => h) (nt a o h)
          cases b with
          | false =>
            rw [if_neg (by decide)]
            exact ⟨G5, acc, FD, S5, sb5, rD5, dj, st5, kp5, eq⟩
          | true =>
            rw [if_pos rfl]
            dsimp only at eq
            refine ⟨env1, G5, Fs2, S4.step0 s5, ?_⟩
            cases e5 : it1 env1 with
            | stk => rw [e5] at eq; exact (qs eq).elim
            | exc c u => rw [e5] at eq; exact (qs eq).elim
            | ok ds1 =>
              rw [e5] at eq
              dsimp only at eq
              cases hz : szOk (acc.length + ds1.length) with
              | false => rw [hz, if_neg (by decide)] at eq; exact (qs eq).elim
              | true =>
              rw [hz, if_pos rfl] at eq
              have hz := szOk_sz hz
              intro J1 G6 H6 s6 src1
              obtain ⟨Gd1, Y1, w1, hGd1, hY1⟩ := id src1
              have S6 := (S4.step0 s5).step0 s6
              have rD6 := rD5.step0 s6
              have st6 : Step W G1 H1 Emp G6 H6 FD := st5.trans (s6.wide (fun _ h => h.elim) fun a h => .inl h)
              have dj2 : ∀ j a, Fs2 j a → ¬ FD a := fun j a h1 h2 => by
                obtain ⟨k, h3⟩ := sub4 a ⟨j, h1⟩
                exact dj k a h3 h2
              refine turns_it (Hs := H6) w1 (fun j H' => ∃ G7 acc7 FD7, Sim W G7 (wipeE env1 vs1) (wipe σ2 vs1) H' Fs2 ∧ Sim W G7 (wipeE env vs) (wipe σ vs) H' Fs ∧ Sub G6 G7 ∧ RpO W.C G7 H' (.lst acc7) (.ref D) FD7 ∧ acc7.length ≤ acc.length + j ∧ (∀ j a, Fs2 j a → ¬ FD7 a) ∧ (∀ j a, Fs j a → ¬ FD7 a) ∧ Step W G1 H1 Emp G7 H' FD7 ∧ Sub Kp H' ∧
                Z = (lcP tgt1 tt1 el (wipeE env1 vs1) (ds1.drop j) acc7).bind fun o => match o with
                  | .lst acc2 => lcP2 tgt tt vs1 it1 tgt1 tt1 el (wipeE env vs) (ds.drop (i + 1)) acc2
                  | _ => .stk) ?_ ?_ ?_ ?_
              · exact ⟨G6, acc, FD, S6.wipe _, S5.step0 s6, fun _ _ h => h, rD6, Nat.le_refl _, dj2, dj, st6, fun a o h => s6.h a o (kp5 a o h) (fun h => h) (nt a o h), eq⟩
              · rintro j H' hj ⟨G7, acc7, FD7, S7, _, sb7, _⟩
                exact hGd1 H' (fun a o h => S7.le a o (sb7 a o h))
              · rintro j y H' H8 hj ⟨G7, acc7, FD7, S7, T7, sb7, r7, hl7, dj7, ej7, st7, kp7, eq⟩ hy1
                obtain ⟨G8, d1, hd1, st8, rd1⟩ := hY1 j G7 H' y H8 hj sb7 S7.le S7.tb hy1
                have hdr1 : ds1.drop j = d1 :: ds1.drop (j + 1) := by
                  obtain ⟨h1, h2⟩ := List.getElem?_eq_some_iff.mp hd1
                  rw [List.drop_eq_getElem_cons h1, h2]
                rw [hdr1] at eq
                unfold lcP at eq
                cases f3 : tgt1 d1 (wipeE env1 vs1) with
                | none => rw [f3] at eq; exact (qs eq).elim
                | some env2 =>
                  rw [f3] at eq
                  dsimp only at eq
                  refine ⟨G8, _, env2, Fs2, d1, S7.step0 st8, rd1, f3, fun σ3 Fs3 S9 sub9 p9 => ⟨wipe_of (by rw [hl2]; exact p9), env2, G8, Fs3, S9, ?_⟩⟩
                  have r8 := r7.step0 st8
                  have st8' : Step W G1 H1 Emp G8 H8 FD7 := st7.trans (st8.wide (fun _ h => h.elim) fun a h => .inl h)
                  cases f4 : tt1 env2 with
                  | stk => rw [f4] at eq; exact (qs eq).elim
                  | exc c u => rw [f4] at eq; exact (qs eq).elim
                  | ok b1 =>
                    rw [f4] at eq
                    intro G9 H9 s9
                    have r9 := r8.step0 s9
                    have st9 : Step W G1 H1 Emp G9 H9 FD7 := st8'.trans (s9.wide (fun _ h => h.elim) fun a h => .inl h)
                    have U9 := S7.step0 (st8.trans s9)
                    have T9 := T7.step0 (st8.trans s9)
                    have sb9 : Sub G6 G9 := fun a o h => s9.g a o (st8.g a o (sb7 a o h))
                    have kp9 : Sub Kp H9 := fun a o h => s9.h a o (st8.h a o (kp7 a o h) (fun h => h) (nt a o h)) (fun h => h) (nt a o h)
                    cases b1 with
                    | false =>
                      rw [if_neg (by decide)]
                      exact ⟨G9, acc7, FD7, U9, T9, sb9, r9, by omega, dj7, ej7, st9, kp9, eq⟩
                    | true =>
                      rw [if_pos rfl]
                      refine ⟨env2, G9, Fs3, S9.step0 s9, ?_⟩
                      dsimp only at eq
                      cases f5 : el env2 with
                      | stk => rw [f5] at eq; exact (qs eq).elim
                      | exc c u => rw [f5] at eq; exact (qs eq).elim
                      | ok z =>
                        rw [f5] at eq
                        intro v Ga Ha Fa sa ra
                        have djF : ∀ a, Fa a → ¬ FD7 a := fun a h1 h2 => by
                          obtain ⟨_, o, h3, _⟩ := r9.own a h2
                          rcases sa.f a h1 with z | z
                          · exact z
                          · rw [h3] at z; cases z
                        have r10 := r9.step0 sa
                        obtain ⟨us, hDu, hvl, sp, rp⟩ := acc_push r10 ra sa.le sa.b djF
                        have new : ∀ {Fk : Nat → Fp} {Gk : Hp} {ek : En} {σk : St}, Sim W Gk ek σk H9 Fk → (∀ j a, Fk j a → ¬ FD7 a) → ∀ j a, Fk j a → ¬ (FD7 a ∨ Fa a) := fun {Fk Gk ek σk} Sk djk j a h1 h2 => by
                          rcases h2 with h2 | h2
                          · exact djk j a h1 h2
                          · obtain ⟨_, o, h3, _⟩ := Sk.ow j a h1
                            rcases sa.f a h2 with z | z
                            · exact z
                            · rw [h3] at z; cases z
                        refine ⟨us, hDu, by omega, Ga, acc7 ++ [z], _, (U9.step0 sa).step sp (new U9 dj7), (T9.step0 sa).step sp (new T9 ej7), fun a o h => sa.g a o (sb9 a o h), rp, by rw [List.length_append, List.length_singleton]; omega, new U9 dj7, new T9 ej7, (st9.trans (sa.wide (fun _ h => h.elim) fun a h => h : Step W G9 H9 FD7 Ga Ha (fun a => FD7 a ∨ Fa a))).trans sp, fun a o h => sp.h a o (sa.h a o (kp9 a o h) (fun h => h) (nt a o h)) (fun h2 => ?_) (nt a o h), eq⟩
                        rcases h2 with h2 | h2
                        · rcases st7.f a h2 with z | z
                          · exact z
                          · rw [kp a o h] at z; cases z
                        · rcases sa.f a h2 with z | z
                          · exact z
                          · rw [kp9 a o h] at z; cases z
              · rintro H' ⟨G7, acc7, FD7, S7, T7, sb7, r7, hl7, dj7, ej7, st7, kp7, eq⟩
                rw [List.drop_length] at eq
                unfold lcP at eq
                rw [bind_ok] at eq
                exact ⟨G7, acc7, FD7, T7, fun a o h => sb7 a o (s6.g a o (sb5 a o h)), r7, ej7, st7, kp7, eq⟩
    · rintro H' ⟨G2, acc, FD, S2, sb, rD, dj, st, _, eq⟩
      rw [List.drop_length] at eq
      unfold lcP2 at eq
      rw [eq] at q
      exact q _ G2 H' FD (s1.trans st) rD
theorem SV_lc2 {elt tg iter tg1 iter1 : Expr} {ifs ifs1 : List Expr} {scope : Scope} (own : List (Str × Nat)) (vs1 : List Nat) {pos : Pos} {it it1 : En → R Unit (List D)} {tgt tgt1 : D → En → Option En} {tt tt1 : En → RB} {el : En → RP} (hc : X.calm = true) (hN : X.N.Nodup) (hi : SJk X W Wx tg it iter)
    (ok : BlkOk X.N X.env.scope scope own) (hv : ∀ i ∈ vs1, i ∈ own.map (·.2)) (hg : Bk X scope fun Y => SG Y W (outs (own.map (·.2)) X.N.length) tgt tg) (ht : Bk X scope fun Y => STs Y W WxF tt ifs) (hi1 : Bk X scope fun Y => SJ Y W WxF tg1 it1 iter1)
    (hg1 : Bk X scope fun Y => SG Y W (outs vs1 X.N.length) tgt1 tg1) (ht1 : Bk X scope fun Y => STs Y W WxF tt1 ifs1) (he : Bk X scope fun Y => SV Y W WxF el elt) (hs : ∀ x, foldedSetIterable iter X.env x = pure x := by intro _; rfl) (hs1 : ∀ e2 x, foldedSetIterable iter1 e2 x = pure x := by intro _ _; rfl) :
    SV X W Wx (bLc2 (own.map (·.2)) it tgt tt vs1 it1 tgt1 tt1 el) (.ListComp elt [⟨tg, iter, ifs, 0⟩, ⟨tg1, iter1, ifs1, 0⟩] scope pos) := fun env =>
  ((pe_lc2 (vs1 := vs1) hc hN (hi env) ok hv (fun s H C cl fp => (hg s H C cl fp).pg) (fun s H C cl fp => PTs_any (ht s H C cl fp)) (fun s H C cl fp => PI_anyX (hi1 s H C cl fp)) (fun s H C cl fp => (hg1 s H C cl fp).pg) (fun s H C cl fp => PTs_any (ht1 s H C cl fp)) (fun s H C cl fp => PE_any (he s H C cl fp)) hs hs1 : PE X (.ListComp elt [⟨tg, iter, ifs, 0⟩, ⟨tg1, iter1, ifs1, 0⟩] scope pos) _)).imp' fun pins s σ H Q I q => lcP2_core I.len q
theorem SS_setLc2 (i : Nat) (fz : Bool) {y : Str} {py : Pos} {spos : Pos} {elt tg iter tg1 iter1 : Expr} {ifs ifs1 : List Expr} {scope : Scope} (own : List (Str × Nat)) (vs1 : List Nat) {pos : Pos} {it it1 : En → R Unit (List D)} {tgt tgt1 : D → En → Option En} {tt tt1 : En → RB} {el : En → RP} (hc : X.calm = true) (hN : X.N.Nodup) (hi : SJk X W Wx tg it iter)
    (ok : BlkOk X.N X.env.scope scope own) (hv : ∀ i ∈ vs1, i ∈ own.map (·.2)) (hg : Bk X scope fun Y => SG Y W (outs (own.map (·.2)) X.N.length) tgt tg) (ht : Bk X scope fun Y => STs Y W WxF tt ifs) (hi1 : Bk X scope fun Y => SJ Y W WxF tg1 it1 iter1)
    (hg1 : Bk X scope fun Y => SG Y W (outs vs1 X.N.length) tgt1 tg1) (ht1 : Bk X scope fun Y => STs Y W WxF tt1 ifs1) (he : Bk X scope fun Y => SV Y W WxF el elt)
    (hk : X.env.scope.kind = .function := by rfl) (hl : (py.line == pos.line) = true := by rfl) (ha : (scope.names.any fun (n, k) => n == y && (k == .local || k == .cell)) = false := by decide +kernel)
    (hp : i ∉ pr := by decide) (hy : X.N[i]? = some y := by rfl) (hyl : X.env.scope.names.lookup y = some .local := by rfl) (hs : ∀ x, foldedSetIterable iter X.env x = pure x := by intro _; rfl) (hs1 : ∀ e2 x, foldedSetIterable iter1 e2 x = pure x := by intro _ _; rfl) :
    SS X W Wx pr (sSet i (pE (if fz then bFrz (bLc2 (own.map (·.2)) it tgt tt vs1 it1 tgt1 tt1 el) else bLc2 (own.map (·.2)) it tgt tt vs1 it1 tgt1 tt1 el))) (.Assign [.Name y py] (.ListComp elt [⟨tg, iter, ifs, 0⟩, ⟨tg1, iter1, ifs1, 0⟩] scope pos) spos) := fun env =>
  (ps_setLc2 (vs1 := vs1) hc hN hy hyl (sw_true hk hyl hl ha) (hi env) ok hv (fun s H C cl fp => (hg s H C cl fp).pg) (fun s H C cl fp => PTs_any (ht s H C cl fp)) (fun s H C cl fp => PI_anyX (hi1 s H C cl fp)) (fun s H C cl fp => (hg1 s H C cl fp).pg) (fun s H C cl fp => PTs_any (ht1 s H C cl fp)) (fun s H C cl fp => PE_any (he s H C cl fp)) hs hs1).imp' fun D pins s σ H I q => by
    have q2 := tV_tE (set_core hp q)
    have q3 : tV W Wx env (bLc2 (own.map (·.2)) it tgt tt vs1 it1 tgt1 tt1 el env) σ H fun x H1 => D.nx (σ.set i (some x)) H1 := by
      cases fz with
      | true => exact tV_frz q2
      | false => exact q2
    exact lcP2_core I.len q3
end
end
end FD


set_option Elab.async false
set_option linter.all false
set_option maxRecDepth 100000
set_option maxHeartbeats 1000000
namespace FD.Ty
open PySem L2 FD
section
variable {α β γ δ ρ κ σ τ : Type}
noncomputable def lc2M (p : α → M Bool) (i : α → M (List γ)) (q : α → γ → M Bool) (f : α → γ → M β) : List α → List β → M (List β)
  | [], acc => .ok acc
  | a :: l, acc => match p a with
    | .ok true => match i a with
      | .ok m => match szOk (acc.length + m.length) with
        | true => match lcM (q a) (f a) m with
          | .ok r => lc2M p i q f l (acc ++ r)
          | _ => .stk
        | false => .stk
      | _ => .stk
    | .ok false => lc2M p i q f l acc
    | _ => .stk
theorem lcP2_ok {vs1 : List Nat} {it1 : En → R Unit (List D)} {tgt tgt1 : D → En → Option En} {tt tt1 : En → RB} {elt : En → RP} {env : En} {d : α → D} {d1 : γ → D} {p : α → M Bool} {i : α → M (List γ)} {q : α → γ → M Bool} {f : α → γ → M β} {e : β → O}
    (hb : ∀ a, ∃ e1, tgt (d a) env = some e1 ∧ EG (tt e1) (p a) id ∧ EG (it1 e1) (i a) (List.map d1) ∧ ∀ c, ∃ e2, tgt1 (d1 c) (wipeE e1 vs1) = some e2 ∧ EG (tt1 e2) (q a c) id ∧ EG (elt e2) (f a c) e) :
    ∀ (l : List α) (acc : List β), EG (lcP2 tgt tt vs1 it1 tgt1 tt1 elt env (l.map d) (acc.map e)) (lc2M p i q f l acc) (oL e)
  | [], acc => rfl
  | a :: l, acc => by
    obtain ⟨e1, h1, h2, h3, h4⟩ := hb a
    rw [List.map_cons]
    unfold lcP2
    rw [h1]
    dsimp only
    unfold lc2M
    cases hp : p a with
    | stk => trivial
    | exc c u => trivial
    | ok b =>
      rw [hp] at h2
      rw [show tt e1 = .ok b from h2]
      cases b with
      | false => exact lcP2_ok hb l acc
      | true =>
        dsimp only
        cases hi : i a with
        | stk => trivial
        | exc c u => trivial
        | ok m =>
          rw [hi] at h3
          rw [show it1 e1 = .ok (m.map d1) from h3]
          dsimp only
          rw [List.length_map, List.length_map]
          cases szOk (acc.length + m.length) with
          | false => trivial
          | true =>
            rw [if_pos rfl]
            have k := lcP_ok h4 m (acc.map e)
            cases hl : lcM (q a) (f a) m with
            | stk => trivial
            | exc c u => trivial
            | ok r =>
              rw [hl] at k
              rw [show lcP tgt1 tt1 elt (wipeE e1 vs1) (m.map d1) (acc.map e) = .ok (.lst (acc.map e ++ r.map e)) from k, bind_ok]
              dsimp only
              rw [← List.map_append]
              exact lcP2_ok hb l (acc ++ r)
theorem EG_lc2 {vs vs1 : List Nat} {it it1 : En → R Unit (List D)} {tgt tgt1 : D → En → Option En} {tt tt1 : En → RB} {elt : En → RP} {env : En} {t : M (List α)} {d : α → D} {d1 : γ → D} {p : α → M Bool} {i : α → M (List γ)} {q : α → γ → M Bool} {f : α → γ → M β} {e : β → O} (hi : EG (it env) t (List.map d))
    (hb : ∀ a, ∃ e1, tgt (d a) (wipeE env vs) = some e1 ∧ EG (tt e1) (p a) id ∧ EG (it1 e1) (i a) (List.map d1) ∧ ∀ c, ∃ e2, tgt1 (d1 c) (wipeE e1 vs1) = some e2 ∧ EG (tt1 e2) (q a c) id ∧ EG (elt e2) (f a c) e) :
    EG (bLc2 vs it tgt tt vs1 it1 tgt1 tt1 elt env) (t.bind fun l => lc2M p i q f l []) (oL e) := by
  unfold bLc2
  exact hi.bind fun l => lcP2_ok hb l []
theorem lc2M_ok {p : α → M Bool} {i : α → M (List γ)} {q : α → γ → M Bool} {f : α → γ → M β} {P : α → Bool} {I : α → List γ} {Q : α → γ → Bool} {g : α → γ → β} :
    ∀ {l : List α} {acc : List β}, (∀ a ∈ l, p a = .ok (P a) ∧ (P a = true → i a = .ok (I a) ∧ ∀ c ∈ I a, q a c = .ok (Q a c) ∧ (Q a c = true → f a c = .ok (g a c)))) → acc.length + (l.map fun a => (I a).length).sum ≤ lim →
      lc2M p i q f l acc = .ok (acc ++ (l.filter P).flatMap fun a => ((I a).filter (Q a)).map (g a))
  | [], acc, _, _ => by unfold lc2M; simp
  | a :: l, acc, h, hz => by
    obtain ⟨h1, h2⟩ := h a List.mem_cons_self
    have hr := fun b hb => h b (List.mem_cons_of_mem a hb)
    rw [List.map_cons, List.sum_cons] at hz
    unfold lc2M
    rw [h1]
    cases hP : P a with
    | false =>
      dsimp only
      rw [lc2M_ok hr (by omega), List.filter_cons_of_neg (by rw [hP]; exact Bool.false_ne_true)]
    | true =>
      obtain ⟨h3, h4⟩ := h2 hP
      dsimp only
      rw [h3]
      dsimp only
      rw [show szOk (acc.length + (I a).length) = true from decide_eq_true (by omega)]
      dsimp only
      rw [lcM_ok h4]
      dsimp only
      have hf : ((I a).filter (Q a)).length ≤ (I a).length := List.length_filter_le _ _
      rw [lc2M_ok hr (by rw [List.length_append, List.length_map]; omega), List.filter_cons_of_pos hP, List.flatMap_cons, List.append_assoc]
end
end FD.Ty


set_option Elab.async false
set_option linter.all false
set_option maxRecDepth 100000
namespace FD
open PySem PySem.SeqAt
open PySem.AutoSeq1 (wpAny_loadPart')
open PySem.MeetsSeq PySem.MeetsSeq2 PySem.MeetsSeq3
end FD
namespace FD
noncomputable section
open PySem PySem.Spec L2
section
variable {X : Cx} {W : Wd} {Wx : WX} {pr : List Nat} {G G' H H' : Hp} {env env' : En} {σ σ' : St} {Fs Fs' : Nat → Fp} {F F' : Fp}
end
end
end FD


set_option Elab.async false
set_option linter.all false
set_option maxRecDepth 100000
set_option maxHeartbeats 1000000
namespace FD.Ty
open PySem L2 FD
section
variable {α β γ δ ρ κ σ τ : Type}
end
end FD.Ty


set_option Elab.async false
set_option linter.all false
set_option maxRecDepth 100000
namespace FD
noncomputable section
open PySem PySem.Spec L2
section
variable {X : Cx} {W : Wd} {Wx : WX} {pr : List Nat} {G G' H H' : Hp} {env env' : En} {σ σ' : St} {Fs Fs' : Nat → Fp} {F F' : Fp}
def bIdxO (f g : En → RP) : En → RP := fun env => (f env).bind fun x => match x with
  | .lst xs => match allSh xs with
    | some ds => (g env).bind fun y => match y with
      | .sh d => if pyOkL ds && pyOk d then ofO ((idxD ds d).map fun j => .sh (.int (j : Nat))) else .stk
      | _ => .stk
    | none => .stk
  | _ => .stk
theorem SV_idxO {f g : En → RP} {o e : Expr} {apos cpos : Pos} (hu : X.A.units + 65 < cLine) (ho : SP X W Wx f o) (he : SP X W Wx g e) (hbase : attributeBase o "index" X.env (eval o X.env) = eval o X.env := by rfl)
    (hfew : ((backTo cpos (starEach [e] X.env)).all (fun x => !x.1) && (backToKw cpos (keywordEach [] X.env)).all (fun x => x.1.isSome)
      && decide (([e] : List Expr).length + ([] : List Keyword).length + (if ([] : List Keyword).isEmpty then 0 else 1) < 30)) = true := by rfl)
    (hline : (apos.endLine == cpos.line) = true := by rfl) (hs : starEach [e] X.env = (false, eval e X.env) :: starEach [] X.env := by rfl) (hplain : (backTo cpos (starEach [] X.env)).any (·.1) = false := by rfl) : SV X W Wx (bIdxO f g) (.Call (.Attribute o "index" apos) [e] [] cpos) := fun env =>
  (pe_idx hu (ho env) (he env) hbase hfew hline hs hplain).imp fun σ H Q => by
    rintro ⟨G, Fs, S, q⟩
    refine ⟨G, Fs, S, ?_⟩
    unfold bIdxO at q
    cases e1 : f env with
    | stk => rw [e1] at q; exact q
    | exc c u => rw [e1] at q; exact q
    | ok x =>
      rw [e1, bind_ok] at q
      intro v G1 H1 F1 s1 r1
      cases x with
      | lst xs =>
        dsimp only at q
        cases e0 : allSh xs with
        | none => rw [e0] at q; exact q.elim
        | some ds =>
          rw [e0] at q
          cases r1 with
          | @lst _ a vs _ Fa h1 h2 h3 h4 dj bd hF =>
            have hv : RpDs W G1 ds vs := RpDs.of (H := H1) (by
              rw [← allSh_some e0]
              exact paired_of h3 fun i d v h1 h2 => ⟨Fa i, h4 i d v h1 h2⟩)
            refine ⟨a, rfl, .inl ⟨⟨vs, SqL.of h2⟩, G1, Fs, S.step0 s1, ?_⟩⟩
            dsimp only at q
            cases e2 : g env with
            | stk => rw [e2] at q; exact q
            | exc c u => rw [e2] at q; exact fun G' H' s => q G' H' (s1.trans s)
            | ok y =>
              rw [e2, bind_ok] at q
              intro u G2 H2 F2 s2 r2
              cases y with
              | sh d =>
                dsimp only at q
                cases hp : pyOkL ds && pyOk d with
                | false => rw [hp, if_neg (by decide)] at q; exact q.elim
                | true =>
                  rw [hp, if_pos rfl] at q
                  cases hj : idxD ds d with
                  | none => rw [hj] at q; exact q.elim
                  | some j =>
                    rw [hj] at q
                    obtain ⟨d', ds', z, c1, c2, c3, c4, c5, c6, c7⟩ := idx_fin (K := X.K) (H := H2) s2.le (RpDs.sub s2.g hv) (rp_sh r2) hp hj
                    exact ⟨vs, SqL.of (s2.h _ _ h2 (fun h => h) True.intro), d', ds', j, z, c1, c2, c3, c4, c5, c6, c7, q _ G2 H2 Emp (s1.trans s2) (.sh' (.int _))⟩
              | _ => exact q.elim
      | _ => exact q.elim
end
end
end FD


set_option Elab.async false
set_option linter.all false
set_option maxRecDepth 100000
set_option maxHeartbeats 1000000
namespace FD.Ty
open PySem L2 FD
section
variable {α β γ δ ρ κ σ τ : Type}
theorem EG_idxO [DecidableEq α] {f g : En → RP} {env : En} {s : M (List α)} {t : M α} {d : α → D} (hq : EqD 60 d) (h : EG (f env) s (oL (sh d))) (h2 : EG (g env) t (sh d)) : EG (bIdxO f g env) (s.bind fun l => t.bind fun x => idxM l x) (sh dI) := by
  unfold bIdxO
  refine h.bind fun l => ?_
  dsimp only
  have e : allSh (l.map (sh d)) = some (l.map d) := by
    rw [show l.map (sh d) = (l.map d).map O.sh by rw [List.map_map]; rfl, allSh_map]
  rw [e]
  dsimp only
  refine h2.bind fun x => ?_
  dsimp only
  rw [if_pos (by
    rw [Bool.and_eq_true]
    exact ⟨pyOkL_of (by
      rw [List.all_eq_true]
      intro z hz
      obtain ⟨a, _, rfl⟩ := List.mem_map.mp hz
      exact hq.ok a), pyOk_of (hq.ok x)⟩), idxD_map hq]
  unfold idxM
  cases l.findIdx? (fun z => decide (z = x)) with
  | none => trivial
  | some j => exact rfl
theorem EG_idxOp [DecidableEq α] {f g : En → RP} {env : En} {l : List α} {x : α} {d : α → D} (hq : EqD 60 d) (h : EG (f env) (.ok l) (oL (sh d))) (h2 : EG (g env) (.ok x) (sh d)) : EG (bIdxO f g env) (idxM l x) (sh dI) := EG_idxO hq h h2
end
end FD.Ty


set_option Elab.async false
set_option linter.all false
set_option maxRecDepth 100000
namespace FD
noncomputable section
open PySem PySem.Spec L2
section
variable {X : Cx} {W : Wd} {Wx : WX} {pr : List Nat} {G G' H H' : Hp} {env env' : En} {σ σ' : St} {Fs Fs' : Nat → Fp} {F F' : Fp}
end
end
end FD


set_option Elab.async false
set_option linter.all false
set_option maxRecDepth 100000
namespace FD
noncomputable section
open PySem PySem.Spec L2
section
variable {X : Cx} {W : Wd} {Wx : WX} {pr : List Nat} {G G' H H' : Hp} {env env' : En} {σ σ' : St} {Fs Fs' : Nat → Fp} {F F' : Fp}
def bPl (i : Nat) (pl : En → R Unit (List PStep)) : En → RP := fun env => (pl env).bind fun p => ofO (at2 env i p)
theorem SPl.sp {i : Nat} {pl : En → R Unit (List PStep)} {e : Expr} (h : SPl X W Wx i pl e) : SP X W Wx (bPl i pl) e := fun env => (h env).imp fun σ H Q => by
  rintro ⟨G, Fs, S, q⟩
  refine ⟨G, Fs, S, ?_⟩
  unfold bPl at q
  cases e1 : pl env with
  | stk => rw [e1] at q; exact q
  | exc c u => rw [e1] at q; exact q
  | ok p =>
    rw [e1, bind_ok] at q
    intro v w x y G1 H1 s1 hx hy hv hp
    rw [at2_eq hx hy] at q
    obtain ⟨F1, r1, _⟩ := (S.step0 s1).at_ hx hy hv hp
    exact q w G1 H1 F1 s1 r1
end
end
end FD


set_option Elab.async false
set_option linter.all false
set_option maxRecDepth 100000
set_option maxHeartbeats 1000000
namespace FD.Ty
open PySem L2 FD
section
variable {α β γ δ κ κ' ρ σ τ : Type}
abbrev kT (l : List Int) : List Key := l.map Sum.inl
@[reducible] def oKT (d : α → D) : List (List Int × α) → O := fun r => .dT (r.map fun p => (kT p.1, O.sh (d p.2)))
@[reducible] def dKT (d : α → D) : List (List Int × α) → D := fun r => .dT (r.map fun p => (kT p.1, d p.2))
noncomputable def putM [DecidableEq κ] (l : List (κ × α)) (k : κ) (v : α) : M (List (κ × α)) := grd (szOk (l.length + 1)) (.ok (putG l k v)) .stk
noncomputable def putAt [DecidableEq κ] (l : List (List (κ × α))) (a : Int) (k : κ) (v : α) : M (List (List (κ × α))) := match ixN l.length a with
  | some q => match l[q]? with
    | some m => (putM m k v).bind fun m' => .ok (l.set q m')
    | none => .stk
  | none => .stk
end
end FD.Ty


set_option Elab.async false
set_option linter.all false
set_option maxRecDepth 100000
namespace FD
open PySem PySem.SeqAt
open PySem.AutoSeq1 (wpAny_loadPart')
open PySem.MeetsSeq PySem.MeetsSeq2 PySem.MeetsSeq3
end FD
namespace FD
noncomputable section
open PySem PySem.Spec L2
section
variable {X : Cx} {W : Wd} {Wx : WX} {pr : List Nat} {G G' H H' : Hp} {env env' : En} {σ σ' : St} {Fs Fs' : Nat → Fp} {F F' : Fp}
end
end
end FD


set_option Elab.async false
set_option linter.all false
set_option maxRecDepth 100000
set_option maxHeartbeats 1000000
namespace FD.Ty
open PySem L2 FD
end FD.Ty




set_option Elab.async false
set_option linter.all false
set_option maxRecDepth 100000
namespace FD
noncomputable section
open PySem PySem.Spec L2
section
variable {X : Cx} {W : Wd} {Wx : WX} {G G' H H' : Hp} {env env' : En} {σ σ' : St} {Fs Fs' : Nat → Fp} {F F' : Fp}
end
end
end FD


set_option Elab.async false
set_option linter.all false
set_option maxRecDepth 100000
namespace FD.Ty
open PySem L2 FD
section
variable {α : Type}
end
end FD.Ty


set_option Elab.async false
set_option linter.all false
set_option maxRecDepth 100000
set_option maxHeartbeats 1000000
namespace FD.Ty
open PySem L2 FD
section
variable {α β γ δ ρ κ σ τ : Type}
end
end FD.Ty


set_option Elab.async false
set_option linter.all false
set_option maxRecDepth 100000
namespace FD
noncomputable section
open PySem PySem.Spec L2
section
variable {X : Cx} {W : Wd} {Wx : WX} {pr : List Nat} {G G' H H' : Hp} {env env' : En} {σ σ' : St} {Fs Fs' : Nat → Fp} {F F' : Fp}
end
end
end FD


set_option Elab.async false
set_option linter.all false
set_option maxRecDepth 100000
namespace FD.Ty
open PySem L2 FD
section
variable {α β γ δ κ ρ σ τ : Type}
end
end FD.Ty


set_option Elab.async false
set_option linter.all false
set_option maxRecDepth 100000
set_option maxHeartbeats 1000000
namespace FD
noncomputable section
open PySem PySem.Spec L2 LamX
section
variable {X : Cx} {W : Wd} {Wx : WX} {pr : List Nat} {G G' H H' : Hp} {env env' : En} {σ σ' : St} {Fs Fs' : Nat → Fp} {F F' : Fp}
end
end
end FD


set_option Elab.async false
set_option linter.all false
set_option maxRecDepth 100000
namespace FD.Ty
open PySem L2 FD
section
variable {α β γ δ κ ρ σ τ : Type}
end
end FD.Ty


set_option Elab.async false
set_option linter.all false
set_option maxRecDepth 100000
namespace FD
noncomputable section
open PySem PySem.Spec L2
section
variable {X : Cx} {W : Wd} {Wx : WX} {G G' H H' : Hp} {env env' : En} {σ σ' : St} {Fs Fs' : Nat → Fp} {F F' : Fp}
abbrev TPr (K : PySem.W.Frag) (H : Hp) (p : Addr) (kv : List Key × Addr × V) : Prop := SqT K H p [V.ref kv.2.1, kv.2.2] ∧ H kv.2.1 = some (.tup (kv.1.map kV))
theorem tprs_of {pins : List (Addr × Obj)} {s : Shared} (I : Inv X pins σ H s) : ∀ {ps : List Addr} {kvs : List (List Key × Addr × V)}, Paired (TPr X.K H) ps kvs →
    ∃ prs : List (List Key × Addr × Value), Paired (fun (a : List Key × Addr × V) (b : List Key × Addr × Value) => a.1 = b.1 ∧ a.2.1 = b.2.1 ∧ H b.2.1 = some (.tup (b.1.map kV)) ∧ RelV a.2.2 b.2.2) kvs prs ∧ prs.length = ps.length ∧
      ∀ (j : Nat) (q : List Key × Addr × Value), prs[j]? = some q → ∃ b : Addr, ps[j]? = some b ∧ PyProof.Rows.IsTup s.heap b #[.ref q.2.1, q.2.2]
  | _, _, .nil => ⟨[], .nil, rfl, fun j q e => by simp at e⟩
  | _, _, .cons (a := p) (b := kv) h t => by
    obtain ⟨prs, r, hl, hp⟩ := tprs_of I t
    obtain ⟨its, rv, ht, _⟩ := I.tuple h.1
    obtain ⟨u, y, ei, ru, ry⟩ := vals2 rv
    subst ei
    obtain rfl : u = Value.ref kv.2.1 := ru
    refine ⟨(kv.1, kv.2.1, y) :: prs, .cons ⟨rfl, rfl, h.2, ry⟩ r, by rw [List.length_cons, List.length_cons, hl], fun j q e => ?_⟩
    cases j with
    | zero =>
      have e' : (kv.1, kv.2.1, y) = q := Option.some.inj e
      subst e'
      exact ⟨p, rfl, ht⟩
    | succ j =>
      obtain ⟨b, e1, e2⟩ := hp j q (by simpa using e)
      exact ⟨b, by simpa using e1, e2⟩
end
end
end FD


set_option Elab.async false
set_option linter.all false
set_option maxRecDepth 100000
namespace FD
noncomputable section
open PySem PySem.Spec L2
open PyProof.Rows hiding St
section
variable {prog : Program} {w : World} {A : Around} {s : Shared} {Q : Bool → Shared → Prop}
theorem tup_oneLt (c : Bool) {p q : Int} {t u : Tok} (h : Q (decide (p < q)) s) : wpAny (model prog w) A (oneLt' c (.int p t) (.int q u)) Q (fun _ _ => False) s := TS.oneLt_ints c h
theorem tup_lex {b fin : Bool} {xs : List Value} {ns : List Int} (hx : IntsAre xs ns) : ∀ {ys : List Value} {ms : List Int} (i : Nat), IntsAre ys ms → decide (xs.length < ys.length) = fin → Q (HT.lexLt ns ms) s →
    PySem.W.KatLex prog w A b fin Q (xs.zip ys) i s := by
  induction hx with
  | nil =>
    intro ys ms i hy hl h
    cases hy with
    | nil => exact PySem.W.kat_nil (by rw [← hl]; exact h)
    | cons q u hy => exact PySem.W.kat_nil (by rw [← hl]; exact h)
  | @cons p t xs ns hx ih =>
    intro ys ms i hy hl h
    cases hy with
    | nil => exact PySem.W.kat_nil (by rw [← hl]; exact h)
    | @cons q u ys ms hy =>
      have hl' : decide (xs.length < ys.length) = fin := by
        rw [← hl]
        exact decide_eq_decide.mpr (by simp only [List.length_cons]; omega)
      rw [HT.lexLt_cons] at h
      show PySem.W.KatLex prog w A b fin Q ((Value.int p t, Value.int q u) :: xs.zip ys) i s
      refine PySem.W.kat_cons (wpAny_eqBool_int ?_)
      by_cases e : p = q
      · rw [if_pos e] at h
        rw [show (p == q) = true from beq_iff_eq.mpr e]
        exact PySem.W.kat_yes (ih (i + 1) hy hl' h)
      · rw [if_neg e] at h
        rw [show (p == q) = false from beq_eq_false_iff_ne.mpr e]
        exact PySem.W.kat_no (tup_oneLt _ h)
theorem tups_cmp {vs : List Value} {k : Value → List Int} (hp : ∀ v ∈ vs, TS.TupInts s.heap v (k v)) : SrtO.Cmp prog w A s (tuples' true) (fun p => p.1 ∈ vs) (SrtO.lt2 fun v u => HT.lexLt (k v) (k u)) := by
  intro p q hm hm'
  have h1 := hp _ hm
  have h2 := hp _ hm'
  show wpAny (model prog w) A (keyLt' (tuples' true) p.1 q.1) (fun r s' => s' = s ∧ r = HT.lexLt (k p.1) (k q.1)) (fun _ _ => False) s
  generalize k p.1 = x at h1 ⊢
  generalize k q.1 = y at h2 ⊢
  obtain ⟨a, xs, e1, ⟨o, ho, hc, n, hd⟩, i1⟩ := h1
  obtain ⟨b, ys, e2, ⟨o2, ho2, hc2, n2, hd2⟩, i2⟩ := h2
  rw [e1, e2]
  refine PySem.W.kat_lt ho hd ho2 hd2 ?_
  exact tup_lex i1 0 i2 (by rw [Array.length_toList, Array.length_toList]) ⟨rfl, rfl⟩
theorem tups_firsts {h : Heap} {k : Value → List Int} : ∀ {vs : List Value}, (∀ v ∈ vs, TS.TupInts h v (k v) ∧ k v ≠ []) → ∃ fs, PySem.W.KatTups h vs fs ∧ fs.length = vs.length ∧ ∀ f ∈ fs, ∃ n t, f = Value.int n t
  | [], _ => ⟨[], PySem.W.KatTups.nil, rfl, fun f hf => by simp at hf⟩
  | v :: vs, x => by
    obtain ⟨fs, k', hl, hi⟩ := tups_firsts fun u hu => x u (List.mem_cons_of_mem _ hu)
    obtain ⟨⟨a, xs, e0, ⟨o, ho, hc, n, hdt⟩, i⟩, hne⟩ := x v (List.mem_cons_self ..)
    subst e0
    obtain ⟨y, ys, e⟩ : ∃ y ys, xs.toList = y :: ys := by
      cases q : xs.toList with
      | nil =>
        rw [q] at i
        have l := i.length
        exact absurd (List.length_eq_zero_iff.mp (by rw [← l]; rfl)) hne
      | cons y ys => exact ⟨y, ys, rfl⟩
    obtain ⟨m, t, hy⟩ := i.all y (by rw [e]; exact List.mem_cons_self ..)
    refine ⟨y :: fs, PySem.W.KatTups.cons ho hc hdt ?_ k', by simp [hl], ?_⟩
    · have z := congrArg (fun l : List Value => l[0]?) e
      simpa using z
    · intro f hf
      rcases List.mem_cons.mp hf with rfl | hf
      · exact ⟨m, t, hy⟩
      · exact hi f hf
theorem tups_sortableO {a : Addr} {vs : List Value} {k : Value → List Int} (h0 : 0 < vs.length) (hp : ∀ v ∈ vs, TS.TupInts s.heap v (k v) ∧ k v ≠ []) (ha : ∀ o, s.heap.get? a = some o → o.cls ≠ .type "tuple") : SrtO.SortableO prog w A s a vs fun v u => HT.lexLt (k v) (k u) := by
  intro h' keep
  have hp' : ∀ v ∈ vs, TS.TupInts h' v (k v) ∧ k v ≠ [] := fun v hm => ⟨(hp v hm).1.keeps fun b o e c => keep b o (fun z => by subst z; exact ha o e c) e, (hp v hm).2⟩
  obtain ⟨fs, h1, h2, h3⟩ := tups_firsts hp'
  refine ⟨tuples' true, fun Q E hq => ?_, tups_cmp fun v hm => (hp' v hm).1⟩
  refine PySem.W.kat_kind (T := .type "int") h1 (by omega) (fun f hm => ?_) (by rfl) ?_
  · obtain ⟨x, t, rfl⟩ := h3 f hm
    exact PySem.W.Looks.now
  · have e : (Value.type "int" != Value.type "tuple") = true := by first | decide +kernel | rfl | decide
    rw [e]
    exact hq
end
end
end FD


set_option Elab.async false
set_option linter.all false
set_option maxRecDepth 100000
namespace FD
noncomputable section
open PySem PySem.Spec L2
section
variable {X : Cx} {W : Wd} {Wx : WX} {G G' H H' : Hp} {env env' : En} {σ σ' : St} {Fs Fs' : Nat → Fp} {F F' : Fp}
def DE (p : Addr) (bs : List Addr) : HO := .ext fun h => ((p == sysModules) = false ∧ bs.length ≤ sizeLine) ∧ ∃ o es ep, h.get? p = some o ∧ o.ExactDict ∧ o.data = .dict es ep ∧ es.toList.map (·.key) = bs.map Value.ref
def fstT (acc : List (List Key × Addr)) : List (List Key × Addr × V) → List (List Key × Addr)
  | [] => acc
  | x :: r => fstT (if (acc.any fun y => decide (y.1 = x.1)) = true then acc else acc ++ [(x.1, x.2.1)]) r
def rDictExt (K : PySem.W.Frag) : List V → Hp → VK → Prop := fun xs H Q => ∃ (a : Addr) (ps : List Addr) (kvs : List (List Key × Addr × V)), xs = [.ref a] ∧ SqL K H a (ps.map V.ref) ∧ Paired (TPr K H) ps kvs ∧ ∀ p, H p = none → Q (.ref p) (upd H p (DE p ((fstT [] kvs).map (·.2))))
abbrev PrR (H : Hp) (a : List Key × Addr × V) (b : List Key × Addr × Value) : Prop := a.1 = b.1 ∧ a.2.1 = b.2.1 ∧ H b.2.1 = some (.tup (b.1.map kV)) ∧ RelV a.2.2 b.2.2
theorem keyed_storedH {bcc : List (List Key × Addr × Value)} {k : List Key} {a : Addr} {v : Value} : (storedH bcc k a v).map (fun x => (x.1, x.2.1)) = if ((bcc.map fun x => (x.1, x.2.1)).any fun y => decide (y.1 = k)) = true then bcc.map (fun x => (x.1, x.2.1)) else bcc.map (fun x => (x.1, x.2.1)) ++ [(k, a)] := by
  have e : ((bcc.map fun x => (x.1, x.2.1)).any fun y => decide (y.1 = k)) = (atKey bcc k).isSome := by
    unfold atKey
    rw [Option.isSome_map, List.any_map]
    induction bcc with
    | nil => rfl
    | cons x r ih =>
      rw [List.any_cons, List.find?_cons]
      by_cases h : x.1 = k
      · simp [h]
      · have h2 : decide (x.1 = k) = false := decide_eq_false h
        rw [h2]
        show (decide (x.1 = k) || _) = _
        rw [h2, Bool.false_or]
        exact ih
  rw [e]
  unfold storedH
  by_cases h : (atKey bcc k).isSome = true
  · rw [if_pos h, if_pos h, List.map_map]
    refine List.map_congr_left fun x _ => ?_
    show ((putAt k v x).1, (putAt k v x).2.1) = _
    unfold putAt
    split <;> rfl
  · rw [if_neg h, if_neg h, List.map_append]
    rfl
theorem fstT_ok : ∀ {kvs : List (List Key × Addr × V)} {prs bcc : List (List Key × Addr × Value)}, Paired (PrR H) kvs prs → (storedAllH bcc prs).map (fun x => (x.1, x.2.1)) = fstT (bcc.map fun x => (x.1, x.2.1)) kvs
  | _, _, _, .nil => rfl
  | _, _, bcc, .cons (a := x) (b := y) r t => by
    obtain ⟨r1, r2, r3, r4⟩ := r
    show (storedAllH (storedH bcc y.1 y.2.1 y.2.2) _).map _ = fstT _ _
    rw [fstT_ok t, keyed_storedH, ← r1, ← r2]
    rfl
theorem call_dictExt (hc : X.calm = true) (hu : X.A.units + 65 < cLine) : CallR X (.type "dict") (rDictExt X.K) := by
  intro pins s σ H xs us Q I r q
  obtain ⟨a, ps, kvs, ex, hq, hp, q⟩ := q
  subst ex
  obtain ⟨u, eu, rx⟩ := vals1 r
  subst eu
  cases rx
  obtain ⟨its, rv, pl, hz⟩ := I.list hq
  have ei := refs_at rv
  subst ei
  rw [List.length_map] at hz
  obtain ⟨prs, rel, hl, hpr⟩ := tprs_of I hp
  obtain ⟨o, n, ho, hcl, hd, hdat⟩ := pl
  have P := PairArg.list (prog := X.prog) (w := X.w) a (ps.map Value.ref).toArray (fun j => (ps[j]?).getD 0) (prs.map fun x => (Value.ref x.2.1, x.2.2))
  have hst : KeysStay (tupleKind (mixKind X.prog X.w)) s.heap s.heap.objs.size [] prs := fun h' hk x hx => by
    have hH : H x.2.1 = some (.tup (x.1.map kV)) := by
      have : ∀ {kvs : List (List Key × Addr × V)} {prs : List (List Key × Addr × Value)}, Paired (fun (a : List Key × Addr × V) (b : List Key × Addr × Value) => a.1 = b.1 ∧ a.2.1 = b.2.1 ∧ H b.2.1 = some (.tup (b.1.map kV)) ∧ RelV a.2.2 b.2.2) kvs prs → x ∈ prs → H x.2.1 = some (.tup (x.1.map kV)) := by
        intro kvs prs r
        induction r with
        | nil => intro h; cases h
        | cons r _ ih =>
          intro h
          rcases List.mem_cons.mp h with rfl | h
          · exact r.2.2.1
          · exact ih h
      exact this rel hx
    exact key_of (I.hok.kept fun b o e => hk b o (Nat.ne_of_lt (Heap.lt_size e)) (by simp) e) hH
  refine call_dict_pairsH (knd := tupleKind (mixKind X.prog X.w)) (ps := prs) P (I.ok.hd hc) (show X.A.in1.in1.units < cLine from ?_) ⟨⟨o, n, ho, hcl, hd, hdat⟩, ?_, fun j k v e => ?_⟩ ⟨by rw [List.length_map], fun i key v e => ?_⟩ hst (by rw [List.length_map, hl]; exact hz) fun h' tk hd' k => ?_
  · show X.A.units + 1 + 1 < cLine
    omega
  · simp [hl]
  · rw [List.getElem?_map] at e
    cases e1 : prs[j]? with
    | none => rw [e1] at e; cases e
    | some x =>
      rw [e1] at e
      cases e
      obtain ⟨b, e2, e3⟩ := hpr j x e1
      exact ⟨by simp [e2], by show PairAt s.heap ((ps[j]?).getD 0) _ _; rw [e2]; exact .inl e3⟩
  · replace e : (prs.map fun x => (Value.ref x.2.1, x.2.2))[i]? = some (key, v) := e
    rw [List.getElem?_map] at e
    cases e1 : prs[i]? with
    | none => rw [e1] at e; cases e
    | some x =>
      rw [e1] at e
      cases e
      exact ⟨x.1, x.2.1, rfl, rfl⟩
  · obtain ⟨o', es', ep', g1, g2, g3, g4, g5, g6⟩ := hd'
    refine ⟨.ref s.heap.objs.size, upd H s.heap.objs.size (DE s.heap.objs.size ((fstT [] kvs).map (·.2))), I.laid (t' := tk) (fun b o e => k b o (by simp) e) (Nat.le_refl _) ?_, rfl, q _ (I.hok.fresh (Nat.le_refl _))⟩
    have e0 := fstT_ok (bcc := []) rel
    refine (show ObjOk X.prog X.w _ _ _ (DE s.heap.objs.size ((fstT [] kvs).map (·.2))) from ⟨⟨⟨beq_eq_false_iff_ne.mpr (Nat.ne_of_gt I.big), ?_⟩, o', es', ep', g1, g2, g3, ?_⟩, ⟨o', g1⟩, fun h1 h2 ⟨z0, o, es, ep, z1, z2⟩ e => ⟨z0, o, es, ep, e _ z1, z2⟩⟩)
    all_goals have e1 : fstT [] kvs = (storedAllH [] prs).map fun x => (x.1, x.2.1) := e0.symm
    · rw [e1, List.length_map, List.length_map]
      refine Nat.le_trans (storedAllH_length _ _) ?_
      rw [List.length_nil, Nat.zero_add, hl]
      exact hz
    · rw [g4, e1, List.map_map, List.map_map, List.map_map]
      rfl
end
end
end FD


set_option Elab.async false
set_option linter.all false
set_option maxRecDepth 100000
namespace FD
noncomputable section
open PySem PySem.Spec L2
open PyProof.Rows hiding St
section
variable {X : Cx} {W : Wd} {Wx : WX} {G G' H H' : Hp} {env env' : En} {σ σ' : St} {Fs Fs' : Nat → Fp} {F F' : Fp}
def rSortExt : List V → Hp → VK → Prop := fun xs H Q => ∃ (a : Addr) (bs : List Addr) (k : Addr → List Int), xs = [.ref a] ∧ H a = some (DE a bs) ∧ (∀ b ∈ bs, H b = some (.tup ((k b).map V.int)) ∧ k b ≠ []) ∧
  ∀ (out : List Addr) (p : Addr), out.Perm bs → out.Pairwise (fun x y => HT.lexLt (k y) (k x) = false) → H p = none → Q (.ref p) (upd H p (.lst (out.map V.ref)))
def adr : Value → Addr
  | .ref a => a
  | _ => 0
theorem adr_map : ∀ (bs : List Addr), (bs.map Value.ref).map adr = bs
  | [] => rfl
  | b :: bs => by rw [List.map_cons, List.map_cons, adr_map bs]; rfl
theorem call_sortedExt (hcalm : X.calm = true) : CallR X (.builtin "sorted") rSortExt := by
  intro pins s σ H xs us Q I r q
  obtain ⟨a', bs, k, ex, hd, hk, q⟩ := q
  subst ex
  obtain ⟨u, eu, rx⟩ := vals1 r
  subst eu
  obtain rfl : u = Value.ref a' := rx
  obtain ⟨⟨⟨hlo, hsz⟩, o, es, ep, ho, hx, hdt, hes⟩, _, _⟩ := (show ObjOk X.prog X.w H s.heap a' (DE a' bs) from I.hok a' _ hd)
  have l1 : es.size = bs.length := by
    have e := congrArg List.length hes
    rw [List.length_map, List.length_map, Array.length_toList] at e
    exact e
  refine Calls.call_function_entry PyProof.Rows.kind_sorted PyProof.Rows.plain_sorted PyProof.Rows.entry_sorted (PyProof.Rows.args_sorted1 _) ?_
  unfold Builtin.«sorted»
  refine wpAny_bind (m := checkCount "sorted" 1 1 _) (wpAny_pure ?_)
  refine wpAny_bind (PySem.W.kdu_collect (A := X.A.in1) (kdl_raw hlo hx hdt) (I.ok.hd hcalm) ho (by omega) fun h' tk acc hkp hacc => ?_)
  have ea : acc.toList = bs.map Value.ref := by
    have hl2 : acc.toList.length = bs.length := by rw [Array.length_toList, hacc.1]; exact l1
    apply List.ext_getElem?
    intro j
    cases hj : acc.toList[j]? with
    | none =>
      have h1 := List.getElem?_eq_none_iff.mp hj
      rw [List.getElem?_eq_none (by rw [List.length_map]; omega)]
    | some v =>
      obtain ⟨en, hen, hv⟩ := hacc.2 j v (by rw [← Array.getElem?_toList]; exact hj)
      rw [← hes, List.getElem?_map, Array.getElem?_toList, hen, hv]
      rfl
  have I1 : Inv X pins σ H { s with heap := h', toks := tk } := I.kept hkp
  rw [ea]
  refine wpAny_bind (wpAny_newList ?_ (by rw [List.length_map]; exact hsz))
  have hoL : (h'.push (seqObj "list" (bs.map Value.ref).toArray 0)).get? h'.objs.size = some (seqObj "list" (bs.map Value.ref).toArray 0) := Heap.get?_push_size _ rfl
  show wpAny _ _ _ _ _ { s with heap := h'.push (seqObj "list" (bs.map Value.ref).toArray 0), toks := tk }
  refine wpAny_bind (wpAny_holding (wpAny_call_entry PyProof.Rows.slot_list_sort ⟨_, hoL, rfl⟩ PyProof.Rows.entry_list_sort
    (SrtO.list_sort_ord (s := { s with heap := h'.push (seqObj "list" (bs.map Value.ref).toArray 0), toks := tk }) (NtL.swo_lexL fun v => k (adr v)) hoL (by rw [List.length_map]; exact hsz) (fun h2 => ?_) fun out g1 g2 => ⟨_, rfl, ?_⟩) (PyProof.Rows.args_list_sort _)))
  · refine tups_sortableO (by omega) (fun v hv => ?_) fun o e => ?_
    · obtain ⟨b, hb, rfl⟩ := List.mem_map.mp hv
      obtain ⟨e1, e2⟩ := hk b hb
      obtain ⟨_, its, rv, ot, hot, hct, nt, hdt'⟩ := (show ObjOk X.prog X.w H h' b (.tup ((k b).map V.int)) from I1.hok b _ e1)
      exact ⟨⟨b, its.toArray, rfl, ⟨ot, Heap.get?_push_of_some _ hot, hct, nt, hdt'⟩, show IntsAre its.toArray.toList (k b) from by rw [List.toList_toArray]; exact rv.ints⟩, e2⟩
    · have e' : some o = some (seqObj "list" (bs.map Value.ref).toArray 0) := e.symm.trans hoL
      cases e'
      intro c
      exact absurd (Value.type.inj c) (by decide)
  obtain ⟨e', he'⟩ := PyProof.Rows.sortedHeap_at (vs := bs.map Value.ref) (out := out.toArray) hoL
  have hpm : (out.map adr).Perm bs := by
    have := g2.perm.map adr
    rw [adr_map] at this
    exact this
  have hout : out = (out.map adr).map Value.ref := by
    have : ∀ {l : List Value}, (∀ v ∈ l, v ∈ bs.map Value.ref) → l = (l.map adr).map Value.ref := by
      intro l
      induction l with
      | nil => intro _; rfl
      | cons v l ih =>
        intro h
        obtain ⟨b, _, rfl⟩ := List.mem_map.mp (h v List.mem_cons_self)
        rw [List.map_cons, List.map_cons, ← ih fun w hw => h w (List.mem_cons_of_mem _ hw)]
        rfl
    exact this fun v hv => g2.perm.mem_iff.mp hv
  have hpw : (out.map adr).Pairwise (fun x y => HT.lexLt (k y) (k x) = false) := List.pairwise_map.mpr g1
  have hlen : ((out.map adr).map V.ref).length ≤ sizeLine := by
    rw [List.length_map, hpm.length_eq]
    exact hsz
  refine wpAny_pure ⟨_, rfl, .ref h'.objs.size, upd H h'.objs.size (.lst ((out.map adr).map V.ref)), I1.laid (t' := tk) (fun b u e => ?_) (Nat.le_refl _)
    (show ObjOk X.prog X.w _ _ _ (.lst ((out.map adr).map V.ref)) from ⟨hlen, out, e', by rw [hout, adr_map]; exact vals_refs _, he'⟩), rfl, q _ _ hpm hpw (I1.hok.fresh (Nat.le_refl _))⟩
  have hb : b < h'.objs.size := Heap.lt_size e
  rw [PyProof.Rows.sortedHeap_old (Nat.ne_of_lt hb) (by rw [size_push']; exact Nat.lt_succ_of_lt hb)]
  exact Heap.get?_push_of_some _ e
end
end
end FD


set_option Elab.async false
set_option linter.all false
set_option maxRecDepth 100000
namespace FD
noncomputable section
open PySem PySem.Spec L2
def insLx (a : List Int) : List (List Int) → List (List Int)
  | [] => [a]
  | b :: r => if HT.lexLt b a = true then b :: insLx a r else a :: b :: r
def sortLx : List (List Int) → List (List Int)
  | [] => []
  | a :: r => insLx a (sortLx r)
theorem insLx_perm (a : List Int) : ∀ l, (insLx a l).Perm (a :: l)
  | [] => .refl _
  | b :: r => by
    unfold insLx
    split
    · exact ((insLx_perm a r).cons b).trans (.swap a b r)
    · exact .refl _
theorem sortLx_perm : ∀ l, (sortLx l).Perm l
  | [] => .refl _
  | a :: r => (insLx_perm a _).trans ((sortLx_perm r).cons a)
theorem insLx_srt (a : List Int) : ∀ l : List (List Int), l.Pairwise (fun x y => HT.lexLt y x = false) → (insLx a l).Pairwise (fun x y => HT.lexLt y x = false)
  | [], _ => by unfold insLx; exact List.pairwise_singleton _ _
  | b :: r, h => by
    rw [List.pairwise_cons] at h
    unfold insLx
    split
    · rename_i hab
      rw [List.pairwise_cons]
      refine ⟨fun c hc => ?_, insLx_srt a r h.2⟩
      rcases List.mem_cons.mp ((insLx_perm a r).mem_iff.mp hc) with rfl | hc
      · exact NtL.lex_asym _ _ hab
      · exact h.1 c hc
    · rename_i hab
      rw [List.pairwise_cons]
      have hab' : HT.lexLt b a = false := by simpa using hab
      refine ⟨fun c hc => ?_, List.pairwise_cons.mpr h⟩
      rcases List.mem_cons.mp hc with rfl | hc
      · exact hab'
      · exact NtL.lex_tr _ _ _ hab' (h.1 c hc)
theorem sortLx_srt : ∀ l : List (List Int), (sortLx l).Pairwise (fun x y => HT.lexLt y x = false)
  | [] => List.Pairwise.nil
  | a :: r => insLx_srt a _ (sortLx_srt r)
theorem lex_anti : ∀ x y : List Int, HT.lexLt y x = false → HT.lexLt x y = false → x = y
  | [], [], _, _ => rfl
  | [], _ :: _, _, h => by cases h
  | _ :: _, [], h, _ => by cases h
  | x :: xs, y :: ys, h1, h2 => by
    rw [HT.lexLt_cons] at h1 h2
    by_cases e : x = y
    · subst e
      rw [if_pos rfl] at h1 h2
      rw [lex_anti xs ys h1 h2]
    · rw [if_neg e] at h2
      rw [if_neg (Ne.symm e)] at h1
      have a := of_decide_eq_false h1
      have b := of_decide_eq_false h2
      omega
theorem sortLx_unique {l m : List (List Int)} (h1 : m.Perm l) (h2 : m.Pairwise (fun x y => HT.lexLt y x = false)) : m = sortLx l :=
  List.Perm.eq_of_pairwise (fun a b _ _ => lex_anti a b) h2 (sortLx_srt l) (h1.trans (sortLx_perm l).symm)
def ddL (acc : List (List Int)) : List (List Int) → List (List Int)
  | [] => acc
  | x :: r => ddL (if x ∈ acc then acc else acc ++ [x]) r
def inlL (ns : List Int) : List Key := ns.map Sum.inl
theorem inlL_inj {a b : List Int} (h : inlL a = inlL b) : a = b := (List.map_inj_right fun _ _ e => Sum.inl.inj e).mp h
theorem inlL_kV : ∀ ns : List Int, (inlL ns).map kV = ns.map V.int
  | [] => rfl
  | a :: r => by
    show kV (.inl a) :: (inlL r).map kV = _
    rw [inlL_kV r]
    rfl
theorem fstT_keys : ∀ {kvs : List (List Key × Addr × V)} {kss : List (List Int)} {acc : List (List Key × Addr)} {bcc : List (List Int)}, kvs.map (·.1) = kss.map inlL → acc.map (·.1) = bcc.map inlL → (fstT acc kvs).map (·.1) = (ddL bcc kss).map inlL
  | [], [], _, _, _, h => h
  | [], _ :: _, _, _, h, _ => by cases h
  | _ :: _, [], _, _, h, _ => by cases h
  | x :: kvs, ns :: kss, acc, bcc, h, h2 => by
    rw [List.map_cons, List.map_cons] at h
    obtain ⟨e1, e2⟩ := List.cons.inj h
    have e3 : (acc.any fun y => decide (y.1 = x.1)) = decide (ns ∈ bcc) := by
      have : (acc.any fun y => decide (y.1 = x.1)) = ((acc.map (·.1)).any fun y => decide (y = x.1)) := by rw [List.any_map]; rfl
      rw [this, h2, e1, Bool.eq_iff_iff, List.any_eq_true, decide_eq_true_eq]
      constructor
      · rintro ⟨z, hz, e⟩
        obtain ⟨m, hm, rfl⟩ := List.mem_map.mp hz
        rw [← inlL_inj (of_decide_eq_true e)]
        exact hm
      · exact fun hm => ⟨inlL ns, List.mem_map_of_mem hm, decide_eq_true rfl⟩
    show (fstT (if (acc.any fun y => decide (y.1 = x.1)) = true then acc else acc ++ [(x.1, x.2.1)]) kvs).map (·.1) = (ddL (if ns ∈ bcc then bcc else bcc ++ [ns]) kss).map inlL
    refine fstT_keys e2 ?_
    rw [e3]
    by_cases hm : ns ∈ bcc
    · rw [if_pos (decide_eq_true hm), if_pos hm]
      exact h2
    · rw [if_neg (by simpa using hm), if_neg hm, List.map_append, List.map_append, h2]
      show _ ++ [x.1] = _ ++ [inlL ns]
      rw [e1]
theorem fstT_mem {P : List Key × Addr → Prop} : ∀ {kvs : List (List Key × Addr × V)} {acc : List (List Key × Addr)}, (∀ y ∈ acc, P y) → (∀ x ∈ kvs, P (x.1, x.2.1)) → ∀ y ∈ fstT acc kvs, P y
  | [], _, h, _ => h
  | x :: kvs, acc, h, h2 => by
    refine fstT_mem (kvs := kvs) (fun y hy => ?_) fun z hz => h2 z (List.mem_cons_of_mem _ hz)
    split at hy
    · exact h y hy
    · rcases List.mem_append.mp hy with hy | hy
      · exact h y hy
      · rw [List.mem_singleton.mp hy]
        exact h2 x List.mem_cons_self
section
variable {X : Cx} {W : Wd} {Wx : WX} {G G' H H' : Hp} {env env' : En} {σ σ' : St} {Fs Fs' : Nat → Fp} {F F' : Fp}
def tupkD : D → Option (List Int)
  | .tup _ [.tup false ds, _] => intsD ds
  | _ => none
def tupksD : List D → Option (List (List Int))
  | [] => some []
  | d :: r => (tupkD d).bind fun k => (tupksD r).map (k :: ·)
theorem tupksD_some {K : PySem.W.Frag} (le : Sub G H) {ds : List D} {vs : List V} (r : RpDs W G ds vs) : ∀ {kss : List (List Int)}, tupksD ds = some kss →
    ∃ (ps : List Addr) (kvs : List (List Key × Addr × V)), vs = ps.map V.ref ∧ Paired (TPr K H) ps kvs ∧ kvs.map (·.1) = kss.map inlL ∧ ∀ kv ∈ kvs, G kv.2.1 = some (.tup (kv.1.map kV)) := by
  induction ds generalizing vs with
  | nil =>
    intro kss e
    cases r
    cases e
    exact ⟨[], [], rfl, .nil, rfl, fun _ h => by cases h⟩
  | cons d ds ih =>
    intro kss e
    cases r with
    | @cons _ v _ us r1 r2 =>
      rw [tupksD] at e
      cases e1 : tupkD d with
      | none => rw [e1] at e; cases e
      | some ns =>
        rw [e1, Option.bind_some] at e
        cases e2 : tupksD ds with
        | none => rw [e2] at e; cases e
        | some ks =>
          rw [e2] at e
          cases e
          obtain ⟨ps, kvs, rfl, h1, h2, h3⟩ := ih r2 e2
          unfold tupkD at e1
          split at e1
          · rename_i m xs x
            have exs := intsD_some e1
            cases r1 with
            | @tup _ _ a ws t1 t2 t3 =>
              have hw := paired_of t2 t3
              cases hw with
              | @cons _ u _ _ w1 w2 =>
                cases w2 with
                | @cons _ u2 _ _ w2 w3 =>
                  cases w3
                  cases w1 with
                  | @tup _ _ b zs s1 s2 s3 =>
                    have hz := paired_of s2 s3
                    have ez : zs = ns.map V.int := by
                      subst exs
                      have : ∀ {ns : List Int} {zs : List V}, Paired (fun d v => RpD W.C G d v) (ns.map D.int) zs → zs = ns.map V.int := by
                        intro ns
                        induction ns with
                        | nil => intro zs h; cases h; rfl
                        | cons n ns ih =>
                          intro zs h
                          cases h with
                          | cons h1 h2 =>
                            cases h1
                            rw [ih h2]
                            rfl
                      exact this hz
                    subst ez
                    have hb : G b = some (.tup ((inlL ns).map kV)) := by rw [inlL_kV]; exact s1
                    refine ⟨a :: ps, (inlL ns, b, u2) :: kvs, rfl, .cons ⟨.inl (Rd.sub le t1.rd), le _ _ hb⟩ h1, by rw [List.map_cons, List.map_cons, h2], fun kv hk => ?_⟩
                    rcases List.mem_cons.mp hk with rfl | hk
                    · exact hb
                    · exact h3 kv hk
          · cases e1
def oSortedDT : List O → Option O
  | [x] => (itemsD x).bind fun p => if p.1 then (tupksD p.2).bind fun kss => if kss.all (fun ns => !ns.isEmpty) then some (.lst ((sortLx (ddL [] kss)).map fun ns => .sh (.tup false (ns.map D.int)))) else none else none
  | _ => none
def rFuse (K : PySem.W.Frag) : List V → Hp → VK → Prop := fun xs H Q => rDictExt K xs H fun v H1 => rSortExt [v] H1 Q
def unI : V → Int
  | .int i => i
  | _ => 0
def intsAt (G : Hp) (b : Addr) : List Int := match G b with
  | some (.tup vs) => vs.map unI
  | _ => []
theorem unI_map : ∀ ns : List Int, (ns.map V.int).map unI = ns
  | [] => rfl
  | a :: r => by rw [List.map_cons, List.map_cons, unI_map r]; rfl
theorem intsAt_of {ns : List Int} {b : Addr} (h : G b = some (.tup (ns.map V.int))) : intsAt G b = ns := by
  unfold intsAt
  rw [h]
  exact unI_map ns
theorem v_fuse : OpN W (rFuse X.K) oSortedDT := by
  refine opN_1 (fun xs z h => ?_) fun G H x z v F1 Q le b r e q => ?_
  · unfold oSortedDT at h
    split at h
    · exact ⟨_, rfl⟩
    · cases h
  · replace e : ((itemsD x).bind fun p => if p.1 then (tupksD p.2).bind fun kss => if kss.all (fun ns => !ns.isEmpty) then some (O.lst ((sortLx (ddL [] kss)).map fun ns => .sh (.tup false (ns.map D.int)))) else none else none) = some z := e
    cases e1 : itemsD x with
    | none => rw [e1] at e; cases e
    | some p =>
      obtain ⟨bb, ds⟩ := p
      rw [e1, Option.bind_some] at e
      cases bb with
      | false => cases e
      | true =>
        rw [if_pos rfl] at e
        cases e2 : tupksD ds with
        | none => rw [show tupksD (true, ds).2 = none from e2] at e; cases e
        | some kss =>
          rw [show tupksD (true, ds).2 = some kss from e2, Option.bind_some] at e
          by_cases hall : kss.all (fun ns => !ns.isEmpty) = true
          · rw [if_pos hall] at e
            cases e
            obtain ⟨p, ws, rfl, hs, hp⟩ := itemsD_some (K := X.K) le r e1
            obtain ⟨ps, kvs, rfl, h1, h2, h3⟩ := tupksD_some (K := X.K) le hp e2
            refine ⟨p, ps, kvs, rfl, by simpa using hs, h1, fun p' hp' => ?_⟩
            have hmem : ∀ y ∈ fstT [] kvs, (∃ ns ∈ kss, y.1 = inlL ns) ∧ G y.2 = some (.tup (y.1.map kV)) := fstT_mem (P := fun y => (∃ ns ∈ kss, y.1 = inlL ns) ∧ G y.2 = some (.tup (y.1.map kV))) (fun y hy => by cases hy) fun x hx => ⟨by
              have : x.1 ∈ kss.map inlL := by rw [← h2]; exact List.mem_map_of_mem hx
              obtain ⟨ns, hn, en⟩ := List.mem_map.mp this
              exact ⟨ns, hn, en.symm⟩, h3 x hx⟩
            have hat : ∀ y ∈ fstT [] kvs, G y.2 = some (.tup ((intsAt G y.2).map V.int)) ∧ intsAt G y.2 ≠ [] ∧ y.1 = inlL (intsAt G y.2) := fun y hy => by
              obtain ⟨⟨ns, hn, en⟩, hG⟩ := hmem y hy
              rw [en, inlL_kV] at hG
              have ei := intsAt_of hG
              rw [ei]
              refine ⟨hG, fun e0 => ?_, en⟩
              have := List.all_eq_true.mp hall ns hn
              rw [e0] at this
              cases this
            have hkeys : ((fstT [] kvs).map (·.2)).map (intsAt G) = ddL [] kss := by
              have e3 := fstT_keys (acc := []) (bcc := []) h2 rfl
              have e4 : (fstT [] kvs).map (·.1) = (((fstT [] kvs).map (·.2)).map (intsAt G)).map inlL := by
                rw [List.map_map, List.map_map]
                exact List.map_congr_left fun y hy => (hat y hy).2.2
              rw [e4] at e3
              exact (List.map_inj_right fun _ _ e => inlL_inj e).mp e3
            refine ⟨p', (fstT [] kvs).map (·.2), intsAt G, rfl, upd_same, fun b hb => ?_, fun out p2 hpm hpw hp2 => ?_⟩
            · obtain ⟨y, hy, rfl⟩ := List.mem_map.mp hb
              obtain ⟨g1, g2, _⟩ := hat y hy
              exact ⟨(sub_upd hp' _ _ (le _ _ g1)), g2⟩
            · have hn2 : H p2 = none := by
                by_cases e0 : p2 = p'
                · rw [e0, upd_same] at hp2; cases hp2
                · rw [upd_ne e0] at hp2; exact hp2
              have le2 : Sub G (upd H p' (DE p' ((fstT [] kvs).map (·.2)))) := fun a o h => sub_upd hp' _ _ (le a o h)
              have hout : out.map (intsAt G) = sortLx (ddL [] kss) := by
                rw [← hkeys]
                exact sortLx_unique (hpm.map _) (List.pairwise_map.mpr hpw)
              have hrp : ∀ {l : List Addr}, (∀ a ∈ l, a ∈ (fstT [] kvs).map (·.2)) → RpDs W G (l.map fun a => D.tup false ((intsAt G a).map D.int)) (l.map V.ref) := by
                intro l
                induction l with
                | nil => intro _; exact .nil
                | cons a l ih =>
                  intro h
                  rw [List.map_cons, List.map_cons]
                  refine .cons ?_ (ih fun c hc => h c (List.mem_cons_of_mem _ hc))
                  obtain ⟨y, hy, rfl⟩ := List.mem_map.mp (h a List.mem_cons_self)
                  obtain ⟨g1, _, _⟩ := hat y hy
                  refine .tup (show TupAt G y.2 false _ from g1) (by rw [List.length_map, List.length_map]) fun i d v e1 e2 => ?_
                  exact paired_get' (ints_rp (W := W) (G := G) (intsAt G y.2)) i d v e1 e2
              have hz : ((sortLx (ddL [] kss)).map fun ns => O.sh (.tup false (ns.map D.int))) = (out.map fun a => D.tup false ((intsAt G a).map D.int)).map O.sh := by
                rw [← hout, List.map_map, List.map_map]
                rfl
              rw [hz] at q
              have st1 := step_own le b (o := DE p' ((fstT [] kvs).map (·.2))) hp'
              have st2 := step_own (o := .lst (out.map V.ref)) le2 st1.b hp2
              refine q _ G _ (fun a => a = p2) ?_ (RpDs.own (none_of_le le2 hp2) upd_same (hrp fun a ha => hpm.mem_iff.mp ha))
              exact ⟨fun _ _ h => h, fun a o h _ nt => sub_upd hp2 _ _ (sub_upd hp' _ _ h), fun a h => st2.t a (st1.t a h), fun a h => .inl h, fun a h => .inr (by rw [h]; exact hn2), st2.le, st2.b⟩
          · rw [if_neg hall] at e; cases e
theorem SE_sortedDT {f : En → RE} {p p2 pos pos2 : Pos} {e : Expr} (hc : X.calm = true) (hu : X.A.units + 65 < cLine) (hg : Gl X "sorted") (hm : X.mg "sorted" = none) (hg2 : Gl X "dict") (hm2 : X.mg "dict" = none) (ha : SE X W Wx f e) (he : starEach [e] X.env = (false, eval e X.env) :: starEach [] X.env := by rfl) (he2 : starEach [Expr.Call (.Name "dict" p2) [e] [] pos2] X.env = (false, eval (.Call (.Name "dict" p2) [e] [] pos2) X.env) :: starEach [] X.env := by rfl)
    (hpl : (backTo pos (starEach [] X.env)).any (·.1) = false := by rfl) (hpl2 : (backTo pos2 (starEach [] X.env)).any (·.1) = false := by rfl) :
    SE X W Wx (e1 oSortedDT f) (.Call (.Name "sorted" p) [.Call (.Name "dict" p2) [e] [] pos2] [] pos) := fun env =>
  (pe_callB (call_sortedExt hc) hg hm (by decide +kernel) (pa_cons (pe_callTy (call_dictExt hc hu) hg2 hm2 (by decide +kernel) (pa_cons (ha env) pa_nil he) (by decide) (by decide) he hpl2) pa_nil he2) (by decide) (by decide) he2 hpl).imp fun σ H Q q => e1_core (v_fuse (W := W) (X := X)) (fun _ h => h) q
end
end
end FD


set_option Elab.async false
set_option linter.all false
set_option maxRecDepth 100000
set_option maxHeartbeats 4000000
namespace FD.K46
open PySem L2
def top (i : Nat) : Stmt := PySem.Challenge.pw_pairmart_k46_no_lie_helps_in_circles_and.main.body.getD i (.Pass ⟨0, 0, 0, 0⟩)
structure Ad where
  f__law_dice : Addr
  d__law_dice : FuncData
  f__law_rounds : Addr
  d__law_rounds : FuncData
  f__law_roll : Addr
  d__law_roll : FuncData
  f_all_ways : Addr
  d_all_ways : FuncData
  f__law_full : Addr
  d__law_full : FuncData
  f_exchanged_by : Addr
  d_exchanged_by : FuncData
  f_check_list : Addr
  d_check_list : FuncData
  f_check_lists : Addr
  d_check_lists : FuncData
  f_circle_from : Addr
  d_circle_from : FuncData
  f_rounds : Addr
  d_rounds : FuncData
  f_trade : Addr
  d_trade : FuncData
  f_in_turn : Addr
  d_in_turn : FuncData
  f__law_flat : Addr
  d__law_flat : FuncData
  f_law : Addr
  d_law : FuncData
  c_check_list : Addr
  P_check_list : Addr
  c_check_lists : Addr
  P_check_lists : Addr
abbrev s__law_dice : Stmt := top 15
abbrev s__law_rounds : Stmt := top 17
abbrev s__law_roll : Stmt := top 16
abbrev s_all_ways : Stmt := top 11
abbrev s__law_full : Stmt := top 18
abbrev s_exchanged_by : Stmt := top 9
abbrev s_check_list : Stmt := top 4
abbrev s_check_lists : Stmt := top 6
abbrev s_circle_from : Stmt := top 7
abbrev s_rounds : Stmt := top 8
abbrev s_trade : Stmt := top 10
abbrev s_in_turn : Stmt := top 12
abbrev s__law_flat : Stmt := top 14
abbrev s_law : Stmt := top 19
structure Txt (K : PySem.W.Frag) (mg : Str → Option Value) (base : Heap) (W : Wd) (A : Ad) : Prop where
  b_abs : mg "abs" = none
  b_any : mg "any" = none
  b_dict : mg "dict" = none
  b_enumerate : mg "enumerate" = none
  b_int : mg "int" = none
  b_len : mg "len" = none
  b_list : mg "list" = none
  b_min : mg "min" = none
  b_range : mg "range" = none
  b_sorted : mg "sorted" = none
  b_sum : mg "sum" = none
  b_tuple : mg "tuple" = none
  F__law_dice : Fun K "_law_dice" "_law_dice" s__law_dice A.f__law_dice A.d__law_dice
  B__law_dice : Binds K A.d__law_dice ["_law_cell"] []
  m__law_dice : mg "_law_dice" = some (.ref A.f__law_dice)
  F__law_rounds : Fun K "_law_rounds" "_law_rounds" s__law_rounds A.f__law_rounds A.d__law_rounds
  B__law_rounds : Binds K A.d__law_rounds ["_law_script", "_law_most_now"] []
  m__law_rounds : mg "_law_rounds" = some (.ref A.f__law_rounds)
  F__law_roll : Fun K "_law_roll" "_law_roll" s__law_roll A.f__law_roll A.d__law_roll
  B__law_roll : Binds K A.d__law_roll ["_law_dice_here", "_law_many"] []
  m__law_roll : mg "_law_roll" = some (.ref A.f__law_roll)
  F_all_ways : Fun K "all_ways" "all_ways" s_all_ways A.f_all_ways A.d_all_ways
  B_all_ways : Binds K A.d_all_ways ["things"] []
  m_all_ways : mg "all_ways" = some (.ref A.f_all_ways)
  F__law_full : Fun K "_law_full" "_law_full" s__law_full A.f__law_full A.d__law_full
  B__law_full : Binds K A.d__law_full ["_law_dice_here", "_law_many"] []
  m__law_full : mg "_law_full" = some (.ref A.f__law_full)
  F_exchanged_by : Fun K "exchanged_by" "exchanged_by" s_exchanged_by A.f_exchanged_by A.d_exchanged_by
  B_exchanged_by : Binds K A.d_exchanged_by ["rings", "many"] []
  m_exchanged_by : mg "exchanged_by" = some (.ref A.f_exchanged_by)
  F_check_list : Fun K "check_list" "check_list" s_check_list A.f_check_list A.d_check_list
  B_check_list : Binds K A.d_check_list ["order", "many"] []
  m_check_list : mg "check_list" = some (.ref A.f_check_list)
  F_check_lists : Fun K "check_lists" "check_lists" s_check_lists A.f_check_lists A.d_check_lists
  B_check_lists : Binds K A.d_check_lists ["lists"] []
  m_check_lists : mg "check_lists" = some (.ref A.f_check_lists)
  F_circle_from : Fun K "circle_from" "circle_from" s_circle_from A.f_circle_from A.d_circle_from
  B_circle_from : Binds K A.d_circle_from ["points", "start"] []
  m_circle_from : mg "circle_from" = some (.ref A.f_circle_from)
  F_rounds : Fun K "rounds" "rounds" s_rounds A.f_rounds A.d_rounds
  B_rounds : Binds K A.d_rounds ["lists"] []
  m_rounds : mg "rounds" = some (.ref A.f_rounds)
  F_trade : Fun K "trade" "trade" s_trade A.f_trade A.d_trade
  B_trade : Binds K A.d_trade ["lists"] []
  m_trade : mg "trade" = some (.ref A.f_trade)
  F_in_turn : Fun K "in_turn" "in_turn" s_in_turn A.f_in_turn A.d_in_turn
  B_in_turn : Binds K A.d_in_turn ["lists", "order"] []
  m_in_turn : mg "in_turn" = some (.ref A.f_in_turn)
  F__law_flat : Fun K "_law_flat" "_law_flat" s__law_flat A.f__law_flat A.d__law_flat
  B__law_flat : Binds K A.d__law_flat ["_law_rows"] []
  m__law_flat : mg "_law_flat" = some (.ref A.f__law_flat)
  F_law : Fun K "law" "law" s_law A.f_law A.d_law
  B_law : Binds K A.d_law ["_law_script"] []
  m_law : mg "law" = some (.ref A.f_law)
  kl : ∀ p vs, W.C.kl p vs → KL K p vs
  tc_check_list : A.d_check_list.code = .ref A.c_check_list
  tb_check_list : GxR.TabB base mg A.c_check_list A.P_check_list
  tp_check_list : A.P_check_list ∈ W.tabs
  tc_check_lists : A.d_check_lists.code = .ref A.c_check_lists
  tb_check_lists : GxR.TabB base mg A.c_check_lists A.P_check_lists
  tp_check_lists : A.P_check_lists ∈ W.tabs
section
variable {P : Program} {w : World} {K : PySem.W.Frag} {mg : Str → Option Value} {base : Heap} {W : Wd} {A : Ad}
noncomputable def g__law_dice : En → RS :=
    sCons (sIf (uT (bT (bChain oLt oLt (b2 oSub (bC (.int 0)) (bC (.int 10))) (bSh 0) (bC (.int 10))))) (sCons (sRet (pE (bLst (aCons (bN oAbs (aCons (bSh 0) (aNil))) (aCons (bC (.int 0)) (aCons (bC (.int 2)) (aNil))))))) <|
    sNil) (sNil)) <|
    sCons (sRet (eLst (nCons (pE (bSh 0)) (nCons (pE (bFrz (b2 oPlus (bC (.int 1)) (b2 oMod (bN oInt (aCons (bSh 0) (aNil))) (bC (.int 1009)))))) (nCons (pE (bN oInt (aCons (b2 oGe (bSh 0) (b2 oPow (bC (.int 10)) (bC (.int 18)))) (aNil)))) (nNil)))))) <|
    sNil
noncomputable def T__law_dice : List O → RC := fnT 1 1 [] g__law_dice
theorem sc__law_dice : FnScope ["_law_cell"] ["_law_cell"] (defScope s__law_dice) := ⟨rfl, rfl, rfl, by decide +kernel, rfl, by decide +kernel, by decide +kernel⟩
theorem ok__law_dice (T : Txt K mg base W A) : FnOk P w K mg base (L2.CX P w) 1 A.f__law_dice A.d__law_dice ["_law_cell"] (spC W 1 [] T__law_dice) :=
  fn_ok T.F__law_dice sc__law_dice rfl rfl (by decide) (by decide) fun cdv Ar outer s H E hr => by
    have u : (Ar.deeper (PyProof.Rows.envOfC "_law_dice" (defScope s__law_dice) s.heap.objs.size A.f__law_dice cdv)).units + 65 < cLine := by have := hr.un; omega
    have HN := sc__law_dice.nd
    exact SSs_cons (SS_if (ST.su (ST_lt_lt (SV.sp (SV_sub (SV.sp SV_int) (SV.sp SV_int))) (SV.sp (SV_sh 0)) (SV.sp SV_int))) (SSs_cons (SS_ret (SV.se (SV_lst (SA_cons (SV.sp (SV_abs rfl T.b_abs (SA_cons (SV.sp (SV_sh 0)) SA_nil))) (SA_cons (SV.sp SV_int) (SA_cons (SV.sp SV_int) SA_nil)))))) <|
    SSs_nil) (SSs_nil)) <|
    SSs_cons (SS_ret (SE_lst (SN_cons (SV.se (SV_sh 0)) (SN_cons (SV.se (SV.frz (SV_plus (SV.sp SV_int) (SV.sp (SV_mod (SV.sp (SV_toInt rfl T.b_int (SA_cons (SV.sp (SV_sh 0)) SA_nil))) (SV.sp SV_int)))))) (SN_cons (SV.se (SV_toInt rfl T.b_int (SA_cons (SV.sp (SV_ge (SV.sp (SV_sh 0)) (SV.sp (SV_pow (SV.sp SV_int) (SV.sp SV_int))))) SA_nil))) SN_nil))))) <|
    SSs_nil
noncomputable def g__law_rounds : En → RS :=
    sCons (sSet 2 (pE (bFrz (bSlS (bSh 0) pNo (pI (bSh 1)))))) <|
    sCons (sIf (uT (bT (b2 oEq (bSh 2) (bLst (aNil))))) (sCons (sSet 2 (pE (bFrz (bLst (aCons (bC (.int 0)) (aNil)))))) <|
    sNil) (sNil)) <|
    sCons (sRet (pE (bLc [3] (jSeq (bSh 2)) (gN 3) (bYes) (bCall T__law_dice (aCons (bSh 3) (aNil)))))) <|
    sNil
noncomputable def T__law_rounds : List O → RC := fnT 2 4 [] g__law_rounds
theorem sc__law_rounds : FnScope ["_law_script", "_law_most_now", "_law_cells", "_law_cell"] ["_law_script", "_law_most_now"] (defScope s__law_rounds) := ⟨rfl, rfl, rfl, by decide +kernel, rfl, by decide +kernel, by decide +kernel⟩
theorem ok__law_rounds (T : Txt K mg base W A) : FnOk P w K mg base (L2.CX P w) 2 A.f__law_rounds A.d__law_rounds ["_law_script", "_law_most_now"] (spC W 2 [] T__law_rounds) :=
  fn_ok T.F__law_rounds sc__law_rounds rfl rfl (by decide) (by decide) fun cdv Ar outer s H E hr => by
    have u : (Ar.deeper (PyProof.Rows.envOfC "_law_rounds" (defScope s__law_rounds) s.heap.objs.size A.f__law_rounds cdv)).units + 65 < cLine := by have := hr.un; omega
    have HN := sc__law_rounds.nd
    exact SSs_cons (SS_set 2 HN (SV.se (SV.frz (SV_sliceS T.kl (SV.sp (SV_sh 0)) SO_no (SO_some (SV.sp (SV_sh 1))))))) <|
    SSs_cons (SS_if (ST.su (ST_eq u (SV.sp (SV_sh 2)) (SV.sp (SV_lst SA_nil)))) (SSs_cons (SS_set 2 HN (SV.se (SV.frz (SV_lst (SA_cons (SV.sp SV_int) SA_nil))))) <|
    SSs_nil) (SSs_nil)) <|
    SSs_cons (SS_ret (SV.se (SV_lc [("_law_cell", 3)] rfl HN (SJ.k (SJ_seq (SV.sp (SV_sh 2)))) (blkOk_by rfl) (fun _ _ _ _ _ => (SG_name 3 HN (not_outs (by decide)))) (fun _ _ _ _ _ => STs_nil) (fun _ _ _ _ _ => (SV_call (ok__law_dice T) fnT_len (hr.mono (by decide)) rfl T.m__law_dice T.F__law_dice.kp T.B__law_dice takes0 (SA_cons (SV.sp (SV_sh 3)) SA_nil)))))) <|
    SSs_nil
noncomputable def g__law_roll : En → RS :=
    sCons (sIf (uT (bOr (bT (b2 oEq (b2 oAt (bVar 0) (bC (.int 2))) (bC (.int 2)))) (bAnd (bT (b2 oEq (b2 oAt (bVar 0) (bC (.int 2))) (bC (.int 1)))) (bT (b2 oGt (b2 oAt (bVar 0) (bC (.int 0))) (bC (.int 0))))))) (sCons (sSet 2 (pE (b2 oMod (bN oInt (aCons (b2 oAt (bVar 0) (bC (.int 0))) (aNil))) (bSh 1)))) <|
    sCons (sSetIx 0 (pE (b2 oDiv (b2 oAt (bVar 0) (bC (.int 0))) (bSh 1))) (bC (.int 0))) <|
    sCons (sRet (pE (bSh 2))) <|
    sNil) (sNil)) <|
    sCons (sSetIx 0 (pE (bC (.int 0))) (bC (.int 2))) <|
    sCons (sSetIx 0 (pE (b2 oMod (bN oInt (aCons (b2 oPlus (b2 oPlus (b2 oStar (b2 oAt (bVar 0) (bC (.int 0))) (bC (.int 48271))) (b2 oStar (b2 oAt (bVar 0) (bC (.int 1))) (bC (.int 69621)))) (bC (.int 11))) (aNil))) (bC (.int 2147483647)))) (bC (.int 0))) <|
    sCons (sSetIx 0 (pE (bFrz (b2 oPlus (b2 oAt (bVar 0) (bC (.int 1))) (bC (.int 1))))) (bC (.int 1))) <|
    sCons (sRet (pE (b2 oMod (bN oInt (aCons (b2 oPlus (b2 oDiv (b2 oAt (bVar 0) (bC (.int 0))) (bC (.int 7))) (b2 oAt (bVar 0) (bC (.int 0)))) (aNil))) (bSh 1)))) <|
    sNil
noncomputable def T__law_roll : List O → RC := fnT 2 3 [0] g__law_roll
theorem sc__law_roll : FnScope ["_law_dice_here", "_law_many", "_law_found"] ["_law_dice_here", "_law_many"] (defScope s__law_roll) := ⟨rfl, rfl, rfl, by decide +kernel, rfl, by decide +kernel, by decide +kernel⟩
theorem ok__law_roll (T : Txt K mg base W A) : FnOk P w K mg base (L2.CX P w) 1 A.f__law_roll A.d__law_roll ["_law_dice_here", "_law_many"] (spC W 2 [0] T__law_roll) :=
  fn_ok T.F__law_roll sc__law_roll rfl rfl (by decide) (by decide) fun cdv Ar outer s H E hr => by
    have u : (Ar.deeper (PyProof.Rows.envOfC "_law_roll" (defScope s__law_roll) s.heap.objs.size A.f__law_roll cdv)).units + 65 < cLine := by have := hr.un; omega
    have HN := sc__law_roll.nd
    exact SSs_cons (SS_if (ST.su (STw.st (STw_or (ST_eq u (SV.sp (SV_at u (SP_var 0) (SV.sp SV_int))) (SV.sp SV_int)) (STw_or1 (STw.st (STw_and (ST_eq u (SV.sp (SV_at u (SP_var 0) (SV.sp SV_int))) (SV.sp SV_int)) (STw_and1 (ST_gt (SV.sp (SV_at u (SP_var 0) (SV.sp SV_int))) (SV.sp SV_int))))))))) (SSs_cons (SS_set 2 HN (SV.se (SV_mod (SV.sp (SV_toInt rfl T.b_int (SA_cons (SV.sp (SV_at u (SP_var 0) (SV.sp SV_int))) SA_nil))) (SV.sp (SV_sh 1))))) <|
    SSs_cons (SS_setIx 0 (SV.se (SV_div (SV.sp (SV_at u (SP_var 0) (SV.sp SV_int))) (SV.sp (SV_sh 1)))) (SV.sp SV_int)) <|
    SSs_cons (SS_ret (SV.se (SV_sh 2))) <|
    SSs_nil) (SSs_nil)) <|
    SSs_cons (SS_setIx 0 (SV.se SV_int) (SV.sp SV_int)) <|
    SSs_cons (SS_setIx 0 (SV.se (SV_mod (SV.sp (SV_toInt rfl T.b_int (SA_cons (SV.sp (SV_plus (SV.sp (SV_plus (SV.sp (SV_star (SV.sp (SV_at u (SP_var 0) (SV.sp SV_int))) (SV.sp SV_int))) (SV.sp (SV_star (SV.sp (SV_at u (SP_var 0) (SV.sp SV_int))) (SV.sp SV_int))))) (SV.sp SV_int))) SA_nil))) (SV.sp SV_int))) (SV.sp SV_int)) <|
    SSs_cons (SS_setIx 0 (SV.se (SV.frz (SV_plus (SV.sp (SV_at u (SP_var 0) (SV.sp SV_int))) (SV.sp SV_int)))) (SV.sp SV_int)) <|
    SSs_cons (SS_ret (SV.se (SV_mod (SV.sp (SV_toInt rfl T.b_int (SA_cons (SV.sp (SV_plus (SV.sp (SV_div (SV.sp (SV_at u (SP_var 0) (SV.sp SV_int))) (SV.sp SV_int))) (SV.sp (SV_at u (SP_var 0) (SV.sp SV_int))))) SA_nil))) (SV.sp (SV_sh 1))))) <|
    SSs_nil
noncomputable def g_all_ways (T_rec : List O → RC) : En → RS :=
    sCons (sIf (uT (bT (b2 oEq (bN oLen (aCons (bSh 0) (aNil))) (bC (.int 0))))) (sCons (sRet (pE (bTup (aCons (bTup (aNil)) (aNil))))) <|
    sNil) (sNil)) <|
    sCons (sSet 1 (pE (bLst (aNil)))) <|
    sCons (sFor (iJ (jEnum (bSh 0))) (gT (gsCons (gN 2) (gsCons (gN 3) (gsNil)))) (sCons (sExt 1 (pE (bLc [4] (jSeq (bFrz (bCall (T_rec) (aCons (bFrz (b2 oPlus (bSl (bSh 0) pNo (pI (bSh 2))) (bSl (bSh 0) (pI (b2 oPlus (bSh 2) (bC (.int 1)))) pNo))) (aNil))))) (gN 4) (bYes) (bFrz (b2 oPlus (bTup (aCons (bSh 3) (aNil))) (bSh 4)))))) <|
    sNil)) <|
    sCons (sRet (pE (bN oTuple (aCons (bVar 1) (aNil))))) <|
    sNil
noncomputable def T_all_ways : Nat → List O → RC
  | 0 => fun _ => .stk
  | r + 1 => fnT 1 5 [] (g_all_ways (T_all_ways r))
theorem len_all_ways : ∀ (r : Nat) (ds : List O), T_all_ways r ds ≠ .stk → ds.length = 1
  | 0, ds, h => absurd rfl h
  | r + 1, ds, h => fnT_len ds h
theorem sc_all_ways : FnScope ["things", "found", "place", "thing", "rest"] ["things"] (defScope s_all_ways) := ⟨rfl, rfl, rfl, by decide +kernel, rfl, by decide +kernel, by decide +kernel⟩
theorem ok_all_ways (T : Txt K mg base W A) : ∀ r, FnOk P w K mg base (L2.CX P w) (0 + r) A.f_all_ways A.d_all_ways ["things"] (spC W 1 [] (T_all_ways r))
  | 0 => fn_stk _ fun _ => rfl
  | r + 1 => by
    have ih := ok_all_ways T r
    have hlen := len_all_ways r
    exact fn_ok T.F_all_ways sc_all_ways rfl rfl (by decide) (by decide) fun cdv Ar outer s H E hr => by
      have u : (Ar.deeper (PyProof.Rows.envOfC "all_ways" (defScope s_all_ways) s.heap.objs.size A.f_all_ways cdv)).units + 65 < cLine := by have := hr.un; omega
      have HN := sc_all_ways.nd
      exact SSs_cons (SS_if (ST.su (ST_eq u (SV.sp (SV_len rfl T.b_len (SA_cons (SV.sp (SV_sh 0)) SA_nil))) (SV.sp SV_int))) (SSs_cons (SS_ret (SV.se (SV_tup (SA_cons (SV.sp (SV_tup SA_nil)) SA_nil)))) <|
      SSs_nil) (SSs_nil)) <|
      SSs_cons (SS_set 1 HN (SV.se (SV_lst SA_nil))) <|
      SSs_cons (SS_for (passes_of rfl) rfl (SJ.si (SJ_enum rfl T.b_enumerate (SV.sp (SV_sh 0)))) (SG_tup rfl (SGs_cons (SG_name 2 HN) (SGs_cons (SG_name 3 HN) SGs_nil))) (SSs_cons (SS_ext 1 HN (SV.se (SV_lc [("rest", 4)] rfl HN (SJ.k (SJ_seq (SV.sp (SV.frz (SV_call ih hlen (hr.mono (Nat.le_refl _)) rfl T.m_all_ways T.F_all_ways.kp T.B_all_ways (takes_of rfl rfl rfl rfl) (SA_cons (SV.sp (SV.frz (SV_plus (SV.sp (SV_slice (SV.sp (SV_sh 0)) SO_no (SO_some (SV.sp (SV_sh 2))))) (SV.sp (SV_slice (SV.sp (SV_sh 0)) (SO_some (SV.sp (SV_plus (SV.sp (SV_sh 2)) (SV.sp SV_int)))) SO_no))))) SA_nil)))))) (blkOk_by rfl) (fun _ _ _ _ _ => (SG_name 4 HN (not_outs (by decide)))) (fun _ _ _ _ _ => STs_nil) (fun _ _ _ _ _ => (SV.frz (SV_plus (SV.sp (SV_tup (SA_cons (SV.sp (SV_sh 3)) SA_nil))) (SV.sp (SV_sh 4)))))))) <|
      SSs_nil)) <|
      SSs_cons (SS_ret (SV.se (SV_tuple rfl T.b_tuple (SA_cons (SP_var 1) SA_nil)))) <|
      SSs_nil
noncomputable def g__law_full : En → RS :=
    sCons (sPar 2 3 (nCons (pE (bLstR (rg1 (bSh 1)))) (nCons (pE (bLst (aNil))) (nNil)))) <|
    sCons (whl (uT (bT (b2 oNe (bVar 2) (bLst (aNil))))) (sCons (sSet 4 (eOp2v oAt 2 (eCall T__law_roll [(0, 0)] (nLend 0 (nCons (pE (bN oLen (aCons (bVar 2) (aNil)))) (nNil)))))) <|
    sCons (sExpr (eApp 3 (pE (bSh 4)))) <|
    sCons (sExpr (eRem 2 (bSh 4))) <|
    sNil) fuelW) <|
    sCons (sRet (pE (bN oTupleM (aCons (bVar 3) (aNil))))) <|
    sNil
noncomputable def T__law_full : List O → RC := fnT 2 5 [0] g__law_full
theorem sc__law_full : FnScope ["_law_dice_here", "_law_many", "_law_left", "_law_order", "_law_one"] ["_law_dice_here", "_law_many"] (defScope s__law_full) := ⟨rfl, rfl, rfl, by decide +kernel, rfl, by decide +kernel, by decide +kernel⟩
theorem ok__law_full (T : Txt K mg base W A) : FnOk P w K mg base (L2.CX P w) 2 A.f__law_full A.d__law_full ["_law_dice_here", "_law_many"] (spC W 2 [0] T__law_full) :=
  fn_ok T.F__law_full sc__law_full rfl rfl (by decide) (by decide) fun cdv Ar outer s H E hr => by
    have u : (Ar.deeper (PyProof.Rows.envOfC "_law_full" (defScope s__law_full) s.heap.objs.size A.f__law_full cdv)).units + 65 < cLine := by have := hr.un; omega
    have HN := sc__law_full.nd
    exact SSs_cons (SS_par 2 3 rfl HN (SN_cons (SV.se (SV_listR rfl rfl T.b_list (SR_1 rfl T.b_range (SV.sp (SV_sh 1))))) (SN_cons (SV.se (SV_lst SA_nil)) SN_nil))) <|
    SSs_cons (SS_while fuelW (passes_of rfl) (ST.su (ST_ne u (SP_var 2) (SV.sp (SV_lst SA_nil)))) (SSs_cons (SS_set 4 HN (SE_atv 2 u (SE_call (ks := [some 0, none]) [(0, 0)] (ok__law_roll T) fnT_len (hr.mono (by decide)) rfl T.m__law_roll T.F__law_roll.kp T.B__law_roll (takes_of rfl rfl rfl rfl) (SN_lend 0 (SN_cons (SV.se (SV_len rfl T.b_len (SA_cons (SP_var 2) SA_nil))) SN_nil))))) <|
    SSs_cons (SS_expr (SE_append 3 (SV.se (SV_sh 4)))) <|
    SSs_cons (SS_expr (SE_remove 2 rfl (takes_of rfl rfl rfl rfl) (SV.sp (SV_sh 4)))) <|
    SSs_nil)) <|
    SSs_cons (SS_ret (SV.se (SV_tupleM rfl T.b_tuple (SA_cons (SP_var 3) SA_nil)))) <|
    SSs_nil
noncomputable def g_exchanged_by : En → RS :=
    sCons (sSet 2 (pE (b2 oStar (bLst (aCons (bC .non) (aNil))) (bSh 1)))) <|
    sCons (sFor (iJ (jSeq (bSh 0))) (gN 3) (sCons (sFor (iJ (jEnum (bSh 3))) (gT (gsCons (gN 4) (gsCons (gN 5) (gsNil)))) (sCons (sSetIx 2 (pE (b2 oAt (bSh 3) (b2 oMod (b2 oPlus (bSh 4) (bC (.int 1))) (bN oLen (aCons (bSh 3) (aNil)))))) (bSh 5)) <|
    sNil)) <|
    sNil)) <|
    sCons (sRet (pE (bN oTuple (aCons (bVar 2) (aNil))))) <|
    sNil
noncomputable def T_exchanged_by : List O → RC := fnT 2 6 [] g_exchanged_by
theorem sc_exchanged_by : FnScope ["rings", "many", "got", "ring", "place", "one"] ["rings", "many"] (defScope s_exchanged_by) := ⟨rfl, rfl, rfl, by decide +kernel, rfl, by decide +kernel, by decide +kernel⟩
theorem ok_exchanged_by (T : Txt K mg base W A) : FnOk P w K mg base (L2.CX P w) 1 A.f_exchanged_by A.d_exchanged_by ["rings", "many"] (spC W 2 [] T_exchanged_by) :=
  fn_ok T.F_exchanged_by sc_exchanged_by rfl rfl (by decide) (by decide) fun cdv Ar outer s H E hr => by
    have u : (Ar.deeper (PyProof.Rows.envOfC "exchanged_by" (defScope s_exchanged_by) s.heap.objs.size A.f_exchanged_by cdv)).units + 65 < cLine := by have := hr.un; omega
    have HN := sc_exchanged_by.nd
    exact SSs_cons (SS_set 2 HN (SV.se (SV_star (SV.sp (SV_lst (SA_cons (SV.sp SV_non) SA_nil))) (SV.sp (SV_sh 1))))) <|
    SSs_cons (SS_for (passes_of rfl) rfl (SJ.si (SJ_seq (SV.sp (SV_sh 0)))) (SG_name 3 HN) (SSs_cons (SS_for (passes_of rfl) rfl (SJ.si (SJ_enum rfl T.b_enumerate (SV.sp (SV_sh 3)))) (SG_tup rfl (SGs_cons (SG_name 4 HN) (SGs_cons (SG_name 5 HN) SGs_nil))) (SSs_cons (SS_setIx 2 (SV.se (SV_at u (SV.sp (SV_sh 3)) (SV.sp (SV_mod (SV.sp (SV_plus (SV.sp (SV_sh 4)) (SV.sp SV_int))) (SV.sp (SV_len rfl T.b_len (SA_cons (SV.sp (SV_sh 3)) SA_nil))))))) (SV.sp (SV_sh 5))) <|
    SSs_nil)) <|
    SSs_nil)) <|
    SSs_cons (SS_ret (SV.se (SV_tuple rfl T.b_tuple (SA_cons (SP_var 2) SA_nil)))) <|
    SSs_nil
noncomputable def g_check_list : En → RS :=
    sCons (sSet 2 (pE (bN oTuple (aCons (bSh 0) (aNil))))) <|
    sCons (sIf (uT (bT (b2 oNe (bN oLenK (aCons (bN oDict (aCons (bLc [3] (jSeq (bSh 2)) (gN 3) (bYes) (bTup (aCons (bSh 3) (aCons (bC (.int 1)) (aNil))))) (aNil))) (aNil))) (bN oLen (aCons (bSh 2) (aNil)))))) (sCons (sStk) <|
    sNil) (sNil)) <|
    sCons (sIf (uT (bT (bAn true [3] (jSeq (bSh 2)) (gN 3) (bYes) (bNotV (bChain oLe oLt (bC (.int 0)) (bSh 3) (bSh 1)))))) (sCons (sStk) <|
    sNil) (sNil)) <|
    sCons (sRet (pE (bSh 2))) <|
    sNil
noncomputable def T_check_list : List O → RC := fnT 2 4 [] g_check_list
theorem sc_check_list : FnScope ["order", "many", "found", "one"] ["order", "many"] (defScope s_check_list) := ⟨rfl, rfl, rfl, by decide +kernel, rfl, by decide +kernel, by decide +kernel⟩
theorem ok_check_list (T : Txt K mg base W A) : FnOk P w K mg base (L2.CX P w) 2 A.f_check_list A.d_check_list ["order", "many"] (spC W 2 [] T_check_list) :=
  fn_okE T.F_check_list sc_check_list rfl rfl (by decide) (by decide) fun cdv hcd Ar outer s H E hr => by
    have hcv : cdv = .ref A.c_check_list := hcd.symm.trans T.tc_check_list
    have u : (Ar.deeper (PyProof.Rows.envOfC "check_list" (defScope s_check_list) s.heap.objs.size A.f_check_list cdv)).units + 65 < cLine := by have := hr.un; omega
    have HN := sc_check_list.nd
    exact SSs_cons (SS_set 2 HN (SV.se (SV_tuple rfl T.b_tuple (SA_cons (SV.sp (SV_sh 0)) SA_nil)))) <|
    SSs_cons (SS_if (ST.su (ST_ne u (SV.sp (SV_lenK rfl T.b_len (SA_cons (SV.sp (SV_dict rfl rfl T.b_dict (SA_cons (SV.sp (SV_lc [("one", 3)] rfl HN (SJ.k (SJ_seq (SV.sp (SV_sh 2)))) (blkOk_by rfl) (fun _ _ _ _ _ => (SG_name 3 HN (not_outs (by decide)))) (fun _ _ _ _ _ => STs_nil) (fun _ _ _ _ _ => (SV_tup (SA_cons (SV.sp (SV_sh 3)) (SA_cons (SV.sp SV_int) SA_nil)))))) SA_nil))) SA_nil))) (SV.sp (SV_len rfl T.b_len (SA_cons (SV.sp (SV_sh 2)) SA_nil))))) (SSs_cons (SS_stk) <|
    SSs_nil) (SSs_nil)) <|
    SSs_cons (SS_if (ST.su (ST_val (SV.sp (SV_any (k := 0) [("one", 3)] (hr.mono (by omega)) rfl T.b_any T.tb_check_list hcv T.tp_check_list rfl HN (SJ.k (SJ_seq (SV.sp (SV_sh 2)))) (blkOk_by rfl) ⟨rfl, by decide +kernel, rfl⟩ (fun _ _ _ _ _ _ _ hr u => (SG_name 3 HN (not_outs (by decide)))) (fun _ _ _ _ _ _ _ hr u => STs_nil) (fun _ _ _ _ _ _ _ hr u => (SV_not (SV.sp (SV_le_lt (SV.sp SV_int) (SV.sp (SV_sh 3)) (SV.sp (SV_sh 1)))))))))) (SSs_cons (SS_stk) <|
    SSs_nil) (SSs_nil)) <|
    SSs_cons (SS_ret (SV.se (SV_sh 2))) <|
    SSs_nil
noncomputable def g_check_lists : En → RS :=
    sCons (sSet 1 (pE (bN oLen (aCons (bSh 0) (aNil))))) <|
    sCons (sSet 2 (pE (bFrz (bLc [3] (jSeq (bSh 0)) (gN 3) (bYes) (bFrz (bCall T_check_list (aCons (bSh 3) (aCons (bSh 1) (aNil))))))))) <|
    sCons (sIf (uT (bT (bAn true [3] (jSeq (bSh 2)) (gN 3) (bYes) (b2 oNe (bN oLen (aCons (bSh 3) (aNil))) (bSh 1))))) (sCons (sStk) <|
    sNil) (sNil)) <|
    sCons (sRet (pE (bSh 2))) <|
    sNil
noncomputable def T_check_lists : List O → RC := fnT 1 4 [] g_check_lists
theorem sc_check_lists : FnScope ["lists", "many", "found", "order"] ["lists"] (defScope s_check_lists) := ⟨rfl, rfl, rfl, by decide +kernel, rfl, by decide +kernel, by decide +kernel⟩
theorem ok_check_lists (T : Txt K mg base W A) : FnOk P w K mg base (L2.CX P w) 3 A.f_check_lists A.d_check_lists ["lists"] (spC W 1 [] T_check_lists) :=
  fn_okE T.F_check_lists sc_check_lists rfl rfl (by decide) (by decide) fun cdv hcd Ar outer s H E hr => by
    have hcv : cdv = .ref A.c_check_lists := hcd.symm.trans T.tc_check_lists
    have u : (Ar.deeper (PyProof.Rows.envOfC "check_lists" (defScope s_check_lists) s.heap.objs.size A.f_check_lists cdv)).units + 65 < cLine := by have := hr.un; omega
    have HN := sc_check_lists.nd
    exact SSs_cons (SS_set 1 HN (SV.se (SV_len rfl T.b_len (SA_cons (SV.sp (SV_sh 0)) SA_nil)))) <|
    SSs_cons (SS_setLcP 2 true [("order", 3)] rfl HN (SJ.k (SJ_seq (SV.sp (SV_sh 0)))) (blkOk_by rfl) (fun _ _ _ _ _ => (SG_name 3 HN (not_outs (by decide)))) (fun _ _ _ _ _ => STs_nil) (fun _ _ _ _ _ => (SV.frz (SV_call (ok_check_list T) fnT_len (hr.mono (by decide)) rfl T.m_check_list T.F_check_list.kp T.B_check_list takes0 (SA_cons (SV.sp (SV_sh 3)) (SA_cons (SV.sp (SV_sh 1)) SA_nil)))))) <|
    SSs_cons (SS_if (ST.su (ST_val (SV.sp (SV_any (k := 1) [("order", 3)] (hr.mono (by omega)) rfl T.b_any T.tb_check_lists hcv T.tp_check_lists rfl HN (SJ.k (SJ_seq (SV.sp (SV_sh 2)))) (blkOk_by rfl) ⟨rfl, by decide +kernel, rfl⟩ (fun _ _ _ _ _ _ _ hr u => (SG_name 3 HN (not_outs (by decide)))) (fun _ _ _ _ _ _ _ hr u => STs_nil) (fun _ _ _ _ _ _ _ hr u => (SV_ne u (SV.sp (SV_len rfl T.b_len (SA_cons (SV.sp (SV_sh 3)) SA_nil))) (SV.sp (SV_sh 1)))))))) (SSs_cons (SS_stk) <|
    SSs_nil) (SSs_nil)) <|
    SSs_cons (SS_ret (SV.se (SV_sh 2))) <|
    SSs_nil
noncomputable def g_circle_from : En → RS :=
    sCons (sPar 2 3 (nCons (pE (bLst (aNil))) (nCons (pE (bSh 1)) (nNil)))) <|
    sCons (whl (uT (bT (b2 oNotIn (bSh 3) (bVar 2)))) (sCons (sExpr (eApp 2 (pE (bSh 3)))) <|
    sCons (sSet 3 (pE (b2 oAt (bSh 0) (bSh 3)))) <|
    sNil) fuelW) <|
    sCons (sSet 4 (pE (bFrz (bSl (bVar 2) (pI (bIdxO (bVar 2) (bSh 3))) pNo)))) <|
    sCons (sSet 5 (pE (bIdx (bSh 4) (bN oMinL (aCons (bSh 4) (aNil)))))) <|
    sCons (sRet (pE (bN oTuple (aCons (b2 oPlus (bSl (bSh 4) (pI (bSh 5)) pNo) (bSl (bSh 4) pNo (pI (bSh 5)))) (aNil))))) <|
    sNil
noncomputable def T_circle_from : List O → RC := fnT 2 6 [] g_circle_from
theorem sc_circle_from : FnScope ["points", "start", "seen", "here", "ring", "place"] ["points", "start"] (defScope s_circle_from) := ⟨rfl, rfl, rfl, by decide +kernel, rfl, by decide +kernel, by decide +kernel⟩
theorem ok_circle_from (T : Txt K mg base W A) : FnOk P w K mg base (L2.CX P w) 1 A.f_circle_from A.d_circle_from ["points", "start"] (spC W 2 [] T_circle_from) :=
  fn_ok T.F_circle_from sc_circle_from rfl rfl (by decide) (by decide) fun cdv Ar outer s H E hr => by
    have u : (Ar.deeper (PyProof.Rows.envOfC "circle_from" (defScope s_circle_from) s.heap.objs.size A.f_circle_from cdv)).units + 65 < cLine := by have := hr.un; omega
    have HN := sc_circle_from.nd
    exact SSs_cons (SS_par 2 3 rfl HN (SN_cons (SV.se (SV_lst SA_nil)) (SN_cons (SV.se (SV_sh 1)) SN_nil))) <|
    SSs_cons (SS_while fuelW (passes_of rfl) (ST.su (ST_notIn u (SV.sp (SV_sh 3)) (SP_var 2))) (SSs_cons (SS_expr (SE_append 2 (SV.se (SV_sh 3)))) <|
    SSs_cons (SS_set 3 HN (SV.se (SV_at u (SV.sp (SV_sh 0)) (SV.sp (SV_sh 3))))) <|
    SSs_nil)) <|
    SSs_cons (SS_set 4 HN (SV.se (SV.frz (SV_slice (SP_var 2) (SO_some (SV.sp (SV_idxO u (SP_var 2) (SV.sp (SV_sh 3))))) SO_no)))) <|
    SSs_cons (SS_set 5 HN (SV.se (SV_idx u (SV.sp (SV_sh 4)) (SV.sp (SV_minL rfl rfl T.b_min (SA_cons (SV.sp (SV_sh 4)) SA_nil)))))) <|
    SSs_cons (SS_ret (SV.se (SV_tuple rfl T.b_tuple (SA_cons (SV.sp (SV_plus (SV.sp (SV_slice (SV.sp (SV_sh 4)) (SO_some (SV.sp (SV_sh 5))) SO_no)) (SV.sp (SV_slice (SV.sp (SV_sh 4)) SO_no (SO_some (SV.sp (SV_sh 5))))))) SA_nil)))) <|
    SSs_nil
noncomputable def g_rounds : En → RS :=
    sCons (sSet 1 (pE (bFrz (bCall T_check_lists (aCons (bSh 0) (aNil)))))) <|
    sCons (sSet 2 (pE (bFrz (bLstR (rg1 (bN oLen (aCons (bSh 1) (aNil)))))))) <|
    sCons (sSet 3 (pE (bLst (aNil)))) <|
    sCons (whl (uT (bT (b2 oNe (bSh 2) (bLst (aNil))))) (sCons (sSet 4 (pE (bFrz (bN oDict (aCons (bLc [7] (jSeq (bSh 2)) (gN 7) (bYes) (bTup (aCons (bSh 7) (aCons (b2 oAt (bLc [8] (jSeq (b2 oAt (bSh 1) (bSh 7))) (gN 8) (bT (b2 oIn (bSh 8) (bSh 2))) (bSh 8)) (bC (.int 0))) (aNil))))) (aNil)))))) <|
    sCons (sSet 5 (eFrz (e1 oSortedDT (eLc [7] (iJ (jSeq (bSh 2))) (gN 7) (uYes) (eTup (nCons (pE (bFrz (bCall T_circle_from (aCons (bSh 4) (aCons (bSh 7) (aNil)))))) (nCons (pE (bC (.int 1))) (nNil)))))))) <|
    sCons (sExpr (eApp 3 (pE (bN oTuple (aCons (bSh 5) (aNil)))))) <|
    sCons (sSet 6 (pE (bFrz (bLc2 [9, 7] (jSeq (bSh 5)) (gN 9) (bYes) [7] (jSeq (bSh 9)) (gN 7) (bYes) (bSh 7))))) <|
    sCons (sSet 2 (pE (bFrz (bLc [7] (jSeq (bSh 2)) (gN 7) (bT (b2 oNotIn (bSh 7) (bSh 6))) (bSh 7))))) <|
    sNil) fuelW) <|
    sCons (sRet (pE (bN oTuple (aCons (bVar 3) (aNil))))) <|
    sNil
noncomputable def T_rounds : List O → RC := fnT 1 10 [] g_rounds
theorem sc_rounds : FnScope ["lists", "orders", "left", "found", "points", "rings", "gone", "one", "thing", "ring"] ["lists"] (defScope s_rounds) := ⟨rfl, rfl, rfl, by decide +kernel, rfl, by decide +kernel, by decide +kernel⟩
theorem ok_rounds (T : Txt K mg base W A) : FnOk P w K mg base (L2.CX P w) 4 A.f_rounds A.d_rounds ["lists"] (spC W 1 [] T_rounds) :=
  fn_ok T.F_rounds sc_rounds rfl rfl (by decide) (by decide) fun cdv Ar outer s H E hr => by
    have u : (Ar.deeper (PyProof.Rows.envOfC "rounds" (defScope s_rounds) s.heap.objs.size A.f_rounds cdv)).units + 65 < cLine := by have := hr.un; omega
    have HN := sc_rounds.nd
    exact SSs_cons (SS_set 1 HN (SV.se (SV.frz (SV_call (ok_check_lists T) fnT_len (hr.mono (by decide)) rfl T.m_check_lists T.F_check_lists.kp T.B_check_lists (takes_of rfl rfl rfl rfl) (SA_cons (SV.sp (SV_sh 0)) SA_nil))))) <|
    SSs_cons (SS_set 2 HN (SV.se (SV.frz (SV_listR rfl rfl T.b_list (SR_1 rfl T.b_range (SV.sp (SV_len rfl T.b_len (SA_cons (SV.sp (SV_sh 1)) SA_nil)))))))) <|
    SSs_cons (SS_set 3 HN (SV.se (SV_lst SA_nil))) <|
    SSs_cons (SS_while fuelW (passes_of rfl) (ST.su (ST_ne u (SV.sp (SV_sh 2)) (SV.sp (SV_lst SA_nil)))) (SSs_cons (SS_set 4 HN (SV.se (SV.frz (SV_dict rfl rfl T.b_dict (SA_cons (SV.sp (SV_lc [("one", 7)] rfl HN (SJ.k (SJ_seq (SV.sp (SV_sh 2)))) (blkOk_by rfl) (fun _ _ _ _ _ => (SG_name 7 HN (not_outs (by decide)))) (fun _ _ _ _ _ => STs_nil) (fun _ _ _ _ _ => (SV_tup (SA_cons (SV.sp (SV_sh 7)) (SA_cons (SV.sp (SV_at u (SV.sp (SV_lc [("thing", 8)] rfl HN (SJ.k (SJ_seq (SV.sp (SV_at u (SV.sp (SV_sh 1)) (SV.sp (SV_sh 7)))))) (blkOk_by rfl) (fun _ _ _ _ _ => (SG_name 8 HN (not_outs (by decide)))) (fun _ _ _ _ _ => (STs_one (ST_in u (SV.sp (SV_sh 8)) (SV.sp (SV_sh 2))))) (fun _ _ _ _ _ => (SV_sh 8)))) (SV.sp SV_int))) SA_nil)))))) SA_nil))))) <|
    SSs_cons (SS_set 5 HN (SE.frz (SE_sortedDT rfl u rfl T.b_sorted rfl T.b_dict (SE_lc [("one", 7)] rfl HN (SJ.si (SJ_seq (SV.sp (SV_sh 2)))) (blkOk_by rfl) (fun _ _ _ _ _ => (SG_name 7 HN (not_outs (by decide)))) (fun _ _ _ _ _ => SUs_nil) (fun _ _ _ _ _ => (SE_tup (SN_cons (SV.se (SV.frz (SV_call (ok_circle_from T) fnT_len (hr.mono (by decide)) rfl T.m_circle_from T.F_circle_from.kp T.B_circle_from takes0 (SA_cons (SV.sp (SV_sh 4)) (SA_cons (SV.sp (SV_sh 7)) SA_nil))))) (SN_cons (SV.se SV_int) SN_nil)))))))) <|
    SSs_cons (SS_expr (SE_append 3 (SV.se (SV_tuple rfl T.b_tuple (SA_cons (SV.sp (SV_sh 5)) SA_nil))))) <|
    SSs_cons (SS_set 6 HN (SV.se (SV.frz (SV_lc2 [("ring", 9), ("one", 7)] [7] rfl HN (SJ.k (SJ_seq (SV.sp (SV_sh 5)))) (blkOk_by rfl) (by decide) (fun _ _ _ _ _ => (SG_name 9 HN (not_outs (by decide)))) (fun _ _ _ _ _ => STs_nil) (fun _ _ _ _ _ => (SJ_seq (SV.sp (SV_sh 9)))) (fun _ _ _ _ _ => (SG_name 7 HN (not_outs (by decide)))) (fun _ _ _ _ _ => STs_nil) (fun _ _ _ _ _ => (SV_sh 7)))))) <|
    SSs_cons (SS_set 2 HN (SV.se (SV.frz (SV_lc [("one", 7)] rfl HN (SJ.k (SJ_seq (SV.sp (SV_sh 2)))) (blkOk_by rfl) (fun _ _ _ _ _ => (SG_name 7 HN (not_outs (by decide)))) (fun _ _ _ _ _ => (STs_one (ST_notIn u (SV.sp (SV_sh 7)) (SV.sp (SV_sh 6))))) (fun _ _ _ _ _ => (SV_sh 7)))))) <|
    SSs_nil)) <|
    SSs_cons (SS_ret (SV.se (SV_tuple rfl T.b_tuple (SA_cons (SP_var 3) SA_nil)))) <|
    SSs_nil
noncomputable def g_trade : En → RS :=
    sCons (sSet 1 (pE (bFrz (bLc2 [2, 3] (jSeq (bFrz (bCall T_rounds (aCons (bSh 0) (aNil))))) (gN 2) (bYes) [3] (jSeq (bSh 2)) (gN 3) (bYes) (bSh 3))))) <|
    sCons (sRet (pE (bCall T_exchanged_by (aCons (bSh 1) (aCons (bN oLen (aCons (bSh 0) (aNil))) (aNil)))))) <|
    sNil
noncomputable def T_trade : List O → RC := fnT 1 4 [] g_trade
theorem sc_trade : FnScope ["lists", "rings", "row", "ring"] ["lists"] (defScope s_trade) := ⟨rfl, rfl, rfl, by decide +kernel, rfl, by decide +kernel, by decide +kernel⟩
theorem ok_trade (T : Txt K mg base W A) : FnOk P w K mg base (L2.CX P w) 5 A.f_trade A.d_trade ["lists"] (spC W 1 [] T_trade) :=
  fn_ok T.F_trade sc_trade rfl rfl (by decide) (by decide) fun cdv Ar outer s H E hr => by
    have u : (Ar.deeper (PyProof.Rows.envOfC "trade" (defScope s_trade) s.heap.objs.size A.f_trade cdv)).units + 65 < cLine := by have := hr.un; omega
    have HN := sc_trade.nd
    exact SSs_cons (SS_setLc2 1 true [("row", 2), ("ring", 3)] [3] rfl HN (SJ.k (SJ_seq (SV.sp (SV.frz (SV_call (ok_rounds T) fnT_len (hr.mono (by decide)) rfl T.m_rounds T.F_rounds.kp T.B_rounds (takes_of rfl rfl rfl rfl) (SA_cons (SV.sp (SV_sh 0)) SA_nil)))))) (blkOk_by rfl) (by decide) (fun _ _ _ _ _ => (SG_name 2 HN (not_outs (by decide)))) (fun _ _ _ _ _ => STs_nil) (fun _ _ _ _ _ => (SJ_seq (SV.sp (SV_sh 2)))) (fun _ _ _ _ _ => (SG_name 3 HN (not_outs (by decide)))) (fun _ _ _ _ _ => STs_nil) (fun _ _ _ _ _ => (SV_sh 3))) <|
    SSs_cons (SS_ret (SV.se (SV_call (ok_exchanged_by T) fnT_len (hr.mono (by decide)) rfl T.m_exchanged_by T.F_exchanged_by.kp T.B_exchanged_by (takes_of rfl rfl rfl rfl) (SA_cons (SV.sp (SV_sh 1)) (SA_cons (SV.sp (SV_len rfl T.b_len (SA_cons (SV.sp (SV_sh 0)) SA_nil))) SA_nil))))) <|
    SSs_nil
noncomputable def g_in_turn : En → RS :=
    sCons (sSet 2 (pE (b2 oStar (bLst (aCons (bC .non) (aNil))) (bN oLen (aCons (bSh 0) (aNil)))))) <|
    sCons (sSet 3 (pE (bLst (aNil)))) <|
    sCons (sFor (iJ (jSeq (bSh 1))) (gN 4) (sCons (sSet 5 (pE (bFrz (bLc [6] (jSeq (b2 oAt (bSh 0) (bSh 4))) (gN 6) (bT (b2 oNotIn (bSh 6) (bVar 3))) (bSh 6))))) <|
    sCons (sIf (uT (bT (b2 oNe (bSh 5) (bLst (aNil))))) (sCons (sSetIx 2 (pE (b2 oAt (bSh 5) (bC (.int 0)))) (bSh 4)) <|
    sCons (sExpr (eApp 3 (pE (b2 oAt (bSh 5) (bC (.int 0)))))) <|
    sNil) (sNil)) <|
    sNil)) <|
    sCons (sRet (pE (bN oTuple (aCons (bVar 2) (aNil))))) <|
    sNil
noncomputable def T_in_turn : List O → RC := fnT 2 7 [] g_in_turn
theorem sc_in_turn : FnScope ["lists", "order", "got", "taken", "one", "left", "thing"] ["lists", "order"] (defScope s_in_turn) := ⟨rfl, rfl, rfl, by decide +kernel, rfl, by decide +kernel, by decide +kernel⟩
theorem ok_in_turn (T : Txt K mg base W A) : FnOk P w K mg base (L2.CX P w) 1 A.f_in_turn A.d_in_turn ["lists", "order"] (spC W 2 [] T_in_turn) :=
  fn_ok T.F_in_turn sc_in_turn rfl rfl (by decide) (by decide) fun cdv Ar outer s H E hr => by
    have u : (Ar.deeper (PyProof.Rows.envOfC "in_turn" (defScope s_in_turn) s.heap.objs.size A.f_in_turn cdv)).units + 65 < cLine := by have := hr.un; omega
    have HN := sc_in_turn.nd
    exact SSs_cons (SS_set 2 HN (SV.se (SV_star (SV.sp (SV_lst (SA_cons (SV.sp SV_non) SA_nil))) (SV.sp (SV_len rfl T.b_len (SA_cons (SV.sp (SV_sh 0)) SA_nil)))))) <|
    SSs_cons (SS_set 3 HN (SV.se (SV_lst SA_nil))) <|
    SSs_cons (SS_for (passes_of rfl) rfl (SJ.si (SJ_seq (SV.sp (SV_sh 1)))) (SG_name 4 HN) (SSs_cons (SS_setLcP 5 true [("thing", 6)] rfl HN (SJ.k (SJ_seq (SV.sp (SV_at u (SV.sp (SV_sh 0)) (SV.sp (SV_sh 4)))))) (blkOk_by rfl) (fun _ _ _ _ _ => (SG_name 6 HN (not_outs (by decide)))) (fun _ _ _ _ _ => (STs_one (ST_notIn u (SV.sp (SV_sh 6)) (SP_var 3)))) (fun _ _ _ _ _ => (SV_sh 6))) <|
    SSs_cons (SS_if (ST.su (ST_ne u (SV.sp (SV_sh 5)) (SV.sp (SV_lst SA_nil)))) (SSs_cons (SS_setIx 2 (SV.se (SV_at u (SV.sp (SV_sh 5)) (SV.sp SV_int))) (SV.sp (SV_sh 4))) <|
    SSs_cons (SS_expr (SE_append 3 (SV.se (SV_at u (SV.sp (SV_sh 5)) (SV.sp SV_int))))) <|
    SSs_nil) (SSs_nil)) <|
    SSs_nil)) <|
    SSs_cons (SS_ret (SV.se (SV_tuple rfl T.b_tuple (SA_cons (SP_var 2) SA_nil)))) <|
    SSs_nil
noncomputable def g__law_flat : En → RS :=
    sCons (sSet 1 (pE (bFrz (bLst (aNil))))) <|
    sCons (sFor (iJ (jSeq (bSh 0))) (gN 2) (sCons (sSet 1 (pE (bFrz (b2 oPlus (bSh 1) (bSh 2))))) <|
    sNil)) <|
    sCons (sRet (pE (bSh 1))) <|
    sNil
noncomputable def T__law_flat : List O → RC := fnT 1 3 [] g__law_flat
theorem sc__law_flat : FnScope ["_law_rows", "_law_found", "_law_row"] ["_law_rows"] (defScope s__law_flat) := ⟨rfl, rfl, rfl, by decide +kernel, rfl, by decide +kernel, by decide +kernel⟩
theorem ok__law_flat (T : Txt K mg base W A) : FnOk P w K mg base (L2.CX P w) 1 A.f__law_flat A.d__law_flat ["_law_rows"] (spC W 1 [] T__law_flat) :=
  fn_ok T.F__law_flat sc__law_flat rfl rfl (by decide) (by decide) fun cdv Ar outer s H E hr => by
    have u : (Ar.deeper (PyProof.Rows.envOfC "_law_flat" (defScope s__law_flat) s.heap.objs.size A.f__law_flat cdv)).units + 65 < cLine := by have := hr.un; omega
    have HN := sc__law_flat.nd
    exact SSs_cons (SS_set 1 HN (SV.se (SV.frz (SV_lst SA_nil)))) <|
    SSs_cons (SS_for (passes_of rfl) rfl (SJ.si (SJ_seq (SV.sp (SV_sh 0)))) (SG_name 2 HN) (SSs_cons (SS_set 1 HN (SV.se (SV.frz (SV_plus (SV.sp (SV_sh 1)) (SV.sp (SV_sh 2)))))) <|
    SSs_nil)) <|
    SSs_cons (SS_ret (SV.se (SV_sh 1))) <|
    SSs_nil
noncomputable def g_law : En → RS :=
    sCons (sForO (pE (bCall T__law_rounds (aCons (bSh 0) (aCons (bC (.int 1)) (aNil))))) 1 (sCons (sSet 2 (eFrz (eOp2 oPlus (pE (bC (.int 2))) (eCall T__law_roll [(1, 0)] (nLend 1 (nCons (pE (bC (.int 3))) (nNil))))))) <|
    sCons (sPar 3 4 (nCons (eFrz (eLc [7] (iJ (jRange1 (bSh 2))) (gN 7) (uYes) (eFrz (eCall T__law_full [(1, 0)] (nLend 1 (nCons (pE (bSh 2)) (nNil))))))) (nCons (eFrz (eCall T__law_full [(1, 0)] (nLend 1 (nCons (pE (bSh 2)) (nNil))))) (nNil)))) <|
    sCons (sPar 5 6 (nCons (pE (bFrz (bCall T_trade (aCons (bSh 3) (aNil))))) (nCons (pE (bFrz (bCall T_in_turn (aCons (bSh 3) (aCons (bSh 4) (aNil)))))) (nNil)))) <|
    sCons (sSet 7 (eFrz (eCall T__law_roll [(1, 0)] (nLend 1 (nCons (pE (bSh 2)) (nNil)))))) <|
    sCons (sSet 8 (pE (bFrz (bCall (T_all_ways 9) (aCons (bTupR (rg1 (bSh 2))) (aNil)))))) <|
    sCons (sFor (iJ (jSeq (bFrz (bSl (bSh 8) pNo (pI (bC (.int 24))))))) (gN 9) (sCons (sSet 10 (pE (bFrz (b2 oPlus (b2 oPlus (bSl (bSh 3) pNo (pI (bSh 7))) (bLst (aCons (bSh 9) (aNil)))) (bSl (bSh 3) (pI (b2 oPlus (bSh 7) (bC (.int 1)))) pNo))))) <|
    sCons (sIf (uT (bOr (bT (b2 oLt (bIdx (b2 oAt (bSh 3) (bSh 7)) (b2 oAt (bCall T_trade (aCons (bSh 10) (aNil))) (bSh 7))) (bIdx (b2 oAt (bSh 3) (bSh 7)) (b2 oAt (bSh 5) (bSh 7))))) (bT (b2 oLt (bIdx (b2 oAt (bSh 3) (bSh 7)) (b2 oAt (bCall T_in_turn (aCons (bSh 10) (aCons (bSh 4) (aNil)))) (bSh 7))) (bIdx (b2 oAt (bSh 3) (bSh 7)) (b2 oAt (bSh 6) (bSh 7))))))) (sCons (sRet (pE (bC (.bl false)))) <|
    sNil) (sNil)) <|
    sCons (sSet 11 (pE (bIdx (b2 oAt (bSh 3) (bSh 7)) (b2 oAt (bSh 5) (bSh 7))))) <|
    sCons (sIf (uT (bAnd (bT (b2 oEq (bSl (bSh 9) pNo (pI (b2 oPlus (bSh 11) (bC (.int 1))))) (bSl (b2 oAt (bSh 3) (bSh 7)) pNo (pI (b2 oPlus (bSh 11) (bC (.int 1))))))) (bT (b2 oNe (bCall T_trade (aCons (bSh 10) (aNil))) (bSh 5))))) (sCons (sRet (pE (bC (.bl false)))) <|
    sNil) (sNil)) <|
    sNil)) <|
    sCons (sFor (iJ (jRange1 (bSh 2))) (gN 12) (sCons (sFor (iJ (jRange1 (bSh 12))) (gN 13) (sCons (sIf (uT (bAnd (bT (b2 oEq (b2 oAt (b2 oAt (bSh 3) (bSh 13)) (bC (.int 0))) (bSh 12))) (bAnd (bT (b2 oEq (b2 oAt (b2 oAt (bSh 3) (bSh 12)) (bC (.int 0))) (bSh 13))) (bT (b2 oNe (bTup (aCons (b2 oAt (bSh 5) (bSh 13)) (aCons (b2 oAt (bSh 5) (bSh 12)) (aNil)))) (bTup (aCons (bSh 12) (aCons (bSh 13) (aNil))))))))) (sCons (sRet (pE (bC (.bl false)))) <|
    sNil) (sNil)) <|
    sNil)) <|
    sCons (sIf (uT (bAnd (bT (b2 oEq (b2 oAt (b2 oAt (bSh 3) (bSh 12)) (bC (.int 0))) (bSh 12))) (bT (b2 oNe (b2 oAt (bSh 5) (bSh 12)) (bSh 12))))) (sCons (sRet (pE (bC (.bl false)))) <|
    sNil) (sNil)) <|
    sNil)) <|
    sCons (sIf (uT (bOr (bT (b2 oEq (b2 oAt (bCall T_rounds (aCons (bSh 3) (aNil))) (bC (.int 0))) (bTup (aNil)))) (bT (b2 oNe (bN oSum (aCons (bCall T__law_flat (aCons (bFrz (bLc [14] (jSeq (bFrz (bCall T_rounds (aCons (bSh 3) (aNil))))) (gN 14) (bYes) (bFrz (bLc [15] (jSeq (bSh 14)) (gN 15) (bYes) (bN oLen (aCons (bSh 15) (aNil))))))) (aNil))) (aNil))) (bSh 2))))) (sCons (sRet (pE (bC (.bl false)))) <|
    sNil) (sNil)) <|
    sNil)) <|
    sCons (sRet (pE (bC (.bl true)))) <|
    sNil
noncomputable def T_law : List O → RC := fnT 1 16 [] g_law
theorem sc_law : FnScope ["_law_script", "_law_dice_here", "_law_many", "_law_lists", "_law_order", "_law_got", "_law_taken", "_law_k", "_law_ways", "_law_way", "_law_lied", "_law_place", "_law_j", "_law_i", "_law_row", "_law_ring"] ["_law_script"] (defScope s_law) := ⟨rfl, rfl, rfl, by decide +kernel, rfl, by decide +kernel, by decide +kernel⟩
theorem ok_law (T : Txt K mg base W A) : FnOk P w K mg base (L2.CX P w) 11 A.f_law A.d_law ["_law_script"] (spC W 1 [] T_law) :=
  fn_ok T.F_law sc_law rfl rfl (by decide) (by decide) fun cdv Ar outer s H E hr => by
    have u : (Ar.deeper (PyProof.Rows.envOfC "law" (defScope s_law) s.heap.objs.size A.f_law cdv)).units + 65 < cLine := by have := hr.un; omega
    have HN := sc_law.nd
    exact SSs_cons (SS_forO 1 (passes_of rfl) rfl HN (SV.se (SV_call (ok__law_rounds T) fnT_len (hr.mono (by decide)) rfl T.m__law_rounds T.F__law_rounds.kp T.B__law_rounds (takes_of rfl rfl rfl rfl) (SA_cons (SV.sp (SV_sh 0)) (SA_cons (SV.sp SV_int) SA_nil)))) (SSs_cons (SS_set 2 HN (SE.frz (SE_plus (SV.se SV_int) (SE_call (ks := [some 1, none]) [(1, 0)] (ok__law_roll T) fnT_len (hr.mono (by decide)) rfl T.m__law_roll T.F__law_roll.kp T.B__law_roll (takes_of rfl rfl rfl rfl) (SN_lend 1 (SN_cons (SV.se SV_int) SN_nil)))))) <|
    SSs_cons (SS_par 3 4 rfl HN (SN_cons (SE.frz (SE_lc [("_law_k", 7)] rfl HN (SJ.si (SJ_range1 rfl T.b_range (SV.sp (SV_sh 2)))) (blkOk_by rfl) (fun _ _ _ _ _ => (SG_name 7 HN (not_outs (by decide)))) (fun _ _ _ _ _ => SUs_nil) (fun _ _ _ _ _ => (SE.frz (SE_call (ks := [some 1, none]) [(1, 0)] (ok__law_full T) fnT_len (hr.mono (by decide)) rfl T.m__law_full T.F__law_full.kp T.B__law_full takes0 (SN_lend 1 (SN_cons (SV.se (SV_sh 2)) SN_nil))))))) (SN_cons (SE.frz (SE_call (ks := [some 1, none]) [(1, 0)] (ok__law_full T) fnT_len (hr.mono (by decide)) rfl T.m__law_full T.F__law_full.kp T.B__law_full (takes_of rfl rfl rfl rfl) (SN_lend 1 (SN_cons (SV.se (SV_sh 2)) SN_nil)))) SN_nil))) <|
    SSs_cons (SS_par 5 6 rfl HN (SN_cons (SV.se (SV.frz (SV_call (ok_trade T) fnT_len (hr.mono (by decide)) rfl T.m_trade T.F_trade.kp T.B_trade (takes_of rfl rfl rfl rfl) (SA_cons (SV.sp (SV_sh 3)) SA_nil)))) (SN_cons (SV.se (SV.frz (SV_call (ok_in_turn T) fnT_len (hr.mono (by decide)) rfl T.m_in_turn T.F_in_turn.kp T.B_in_turn (takes_of rfl rfl rfl rfl) (SA_cons (SV.sp (SV_sh 3)) (SA_cons (SV.sp (SV_sh 4)) SA_nil))))) SN_nil))) <|
    SSs_cons (SS_set 7 HN (SE.frz (SE_call (ks := [some 1, none]) [(1, 0)] (ok__law_roll T) fnT_len (hr.mono (by decide)) rfl T.m__law_roll T.F__law_roll.kp T.B__law_roll (takes_of rfl rfl rfl rfl) (SN_lend 1 (SN_cons (SV.se (SV_sh 2)) SN_nil))))) <|
    SSs_cons (SS_set 8 HN (SV.se (SV.frz (SV_call (ok_all_ways T 9) (len_all_ways 9) (hr.mono (by decide)) rfl T.m_all_ways T.F_all_ways.kp T.B_all_ways (takes_of rfl rfl rfl rfl) (SA_cons (SV.sp (SV_tupR rfl rfl T.b_tuple (SR_1 rfl T.b_range (SV.sp (SV_sh 2))))) SA_nil))))) <|
    SSs_cons (SS_for (passes_of rfl) rfl (SJ.si (SJ_seq (SV.sp (SV.frz (SV_slice (SV.sp (SV_sh 8)) SO_no (SO_some (SV.sp SV_int))))))) (SG_name 9 HN) (SSs_cons (SS_set 10 HN (SV.se (SV.frz (SV_plus (SV.sp (SV_plus (SV.sp (SV_slice (SV.sp (SV_sh 3)) SO_no (SO_some (SV.sp (SV_sh 7))))) (SV.sp (SV_lst (SA_cons (SV.sp (SV_sh 9)) SA_nil))))) (SV.sp (SV_slice (SV.sp (SV_sh 3)) (SO_some (SV.sp (SV_plus (SV.sp (SV_sh 7)) (SV.sp SV_int)))) SO_no)))))) <|
    SSs_cons (SS_if (ST.su (STw.st (STw_or (ST_lt (SV.sp (SV_idx u (SV.sp (SV_at u (SV.sp (SV_sh 3)) (SV.sp (SV_sh 7)))) (SV.sp (SV_at u (SV.sp (SV_call (ok_trade T) fnT_len (hr.mono (by decide)) rfl T.m_trade T.F_trade.kp T.B_trade (takes_of rfl rfl rfl rfl) (SA_cons (SV.sp (SV_sh 10)) SA_nil))) (SV.sp (SV_sh 7)))))) (SV.sp (SV_idx u (SV.sp (SV_at u (SV.sp (SV_sh 3)) (SV.sp (SV_sh 7)))) (SV.sp (SV_at u (SV.sp (SV_sh 5)) (SV.sp (SV_sh 7))))))) (STw_or1 (ST_lt (SV.sp (SV_idx u (SV.sp (SV_at u (SV.sp (SV_sh 3)) (SV.sp (SV_sh 7)))) (SV.sp (SV_at u (SV.sp (SV_call (ok_in_turn T) fnT_len (hr.mono (by decide)) rfl T.m_in_turn T.F_in_turn.kp T.B_in_turn (takes_of rfl rfl rfl rfl) (SA_cons (SV.sp (SV_sh 10)) (SA_cons (SV.sp (SV_sh 4)) SA_nil)))) (SV.sp (SV_sh 7)))))) (SV.sp (SV_idx u (SV.sp (SV_at u (SV.sp (SV_sh 3)) (SV.sp (SV_sh 7)))) (SV.sp (SV_at u (SV.sp (SV_sh 6)) (SV.sp (SV_sh 7))))))))))) (SSs_cons (SS_ret (SV.se SV_bl)) <|
    SSs_nil) (SSs_nil)) <|
    SSs_cons (SS_set 11 HN (SV.se (SV_idx u (SV.sp (SV_at u (SV.sp (SV_sh 3)) (SV.sp (SV_sh 7)))) (SV.sp (SV_at u (SV.sp (SV_sh 5)) (SV.sp (SV_sh 7))))))) <|
    SSs_cons (SS_if (ST.su (STw.st (STw_and (ST_eq u (SV.sp (SV_slice (SV.sp (SV_sh 9)) SO_no (SO_some (SV.sp (SV_plus (SV.sp (SV_sh 11)) (SV.sp SV_int)))))) (SV.sp (SV_slice (SV.sp (SV_at u (SV.sp (SV_sh 3)) (SV.sp (SV_sh 7)))) SO_no (SO_some (SV.sp (SV_plus (SV.sp (SV_sh 11)) (SV.sp SV_int))))))) (STw_and1 (ST_ne u (SV.sp (SV_call (ok_trade T) fnT_len (hr.mono (by decide)) rfl T.m_trade T.F_trade.kp T.B_trade (takes_of rfl rfl rfl rfl) (SA_cons (SV.sp (SV_sh 10)) SA_nil))) (SV.sp (SV_sh 5))))))) (SSs_cons (SS_ret (SV.se SV_bl)) <|
    SSs_nil) (SSs_nil)) <|
    SSs_nil)) <|
    SSs_cons (SS_for (passes_of rfl) rfl (SJ.si (SJ_range1 rfl T.b_range (SV.sp (SV_sh 2)))) (SG_name 12 HN) (SSs_cons (SS_for (passes_of rfl) rfl (SJ.si (SJ_range1 rfl T.b_range (SV.sp (SV_sh 12)))) (SG_name 13 HN) (SSs_cons (SS_if (ST.su (STw.st (STw_and (ST_eq u (SV.sp (SV_at u (SV.sp (SV_at u (SV.sp (SV_sh 3)) (SV.sp (SV_sh 13)))) (SV.sp SV_int))) (SV.sp (SV_sh 12))) (STw_and (ST_eq u (SV.sp (SV_at u (SV.sp (SV_at u (SV.sp (SV_sh 3)) (SV.sp (SV_sh 12)))) (SV.sp SV_int))) (SV.sp (SV_sh 13))) (STw_and1 (ST_ne u (SV.sp (SV_tup (SA_cons (SV.sp (SV_at u (SV.sp (SV_sh 5)) (SV.sp (SV_sh 13)))) (SA_cons (SV.sp (SV_at u (SV.sp (SV_sh 5)) (SV.sp (SV_sh 12)))) SA_nil)))) (SV.sp (SV_tup (SA_cons (SV.sp (SV_sh 12)) (SA_cons (SV.sp (SV_sh 13)) SA_nil)))))))))) (SSs_cons (SS_ret (SV.se SV_bl)) <|
    SSs_nil) (SSs_nil)) <|
    SSs_nil)) <|
    SSs_cons (SS_if (ST.su (STw.st (STw_and (ST_eq u (SV.sp (SV_at u (SV.sp (SV_at u (SV.sp (SV_sh 3)) (SV.sp (SV_sh 12)))) (SV.sp SV_int))) (SV.sp (SV_sh 12))) (STw_and1 (ST_ne u (SV.sp (SV_at u (SV.sp (SV_sh 5)) (SV.sp (SV_sh 12)))) (SV.sp (SV_sh 12))))))) (SSs_cons (SS_ret (SV.se SV_bl)) <|
    SSs_nil) (SSs_nil)) <|
    SSs_nil)) <|
    SSs_cons (SS_if (ST.su (STw.st (STw_or (ST_eq u (SV.sp (SV_at u (SV.sp (SV_call (ok_rounds T) fnT_len (hr.mono (by decide)) rfl T.m_rounds T.F_rounds.kp T.B_rounds (takes_of rfl rfl rfl rfl) (SA_cons (SV.sp (SV_sh 3)) SA_nil))) (SV.sp SV_int))) (SV.sp (SV_tup SA_nil))) (STw_or1 (ST_ne u (SV.sp (SV_sum rfl rfl T.b_sum (SA_cons (SV.sp (SV_call (ok__law_flat T) fnT_len (hr.mono (by decide)) rfl T.m__law_flat T.F__law_flat.kp T.B__law_flat (takes_of rfl rfl rfl rfl) (SA_cons (SV.sp (SV.frz (SV_lc [("_law_row", 14)] rfl HN (SJ.k (SJ_seq (SV.sp (SV.frz (SV_call (ok_rounds T) fnT_len (hr.mono (by decide)) rfl T.m_rounds T.F_rounds.kp T.B_rounds (takes_of rfl rfl rfl rfl) (SA_cons (SV.sp (SV_sh 3)) SA_nil)))))) (blkOk_by rfl) (fun _ _ _ _ _ => (SG_name 14 HN (not_outs (by decide)))) (fun _ _ _ _ _ => STs_nil) (fun _ _ _ _ _ => (SV.frz (SV_lc [("_law_ring", 15)] rfl HN (SJ.k (SJ_seq (SV.sp (SV_sh 14)))) (blkOk_by rfl) (fun _ _ _ _ _ => (SG_name 15 HN (not_outs (by decide)))) (fun _ _ _ _ _ => STs_nil) (fun _ _ _ _ _ => (SV_len rfl T.b_len (SA_cons (SV.sp (SV_sh 15)) SA_nil))))))))) SA_nil))) SA_nil))) (SV.sp (SV_sh 2))))))) (SSs_cons (SS_ret (SV.se SV_bl)) <|
    SSs_nil) (SSs_nil)) <|
    SSs_nil)) <|
    SSs_cons (SS_ret (SV.se SV_bl)) <|
    SSs_nil
end
end FD.K46


set_option Elab.async false
set_option linter.all false
set_option maxRecDepth 100000
namespace FD.Ty
open PySem L2 FD
section
variable {α : Type}
def srtDT (l : List (List Int × α)) : M (List (List Int)) := grd (l.all fun p => !p.1.isEmpty) (.ok (sortLx (ddL [] (l.map fun p => p.1)))) .stk
theorem tupksD_map (d : α → D) : ∀ l : List (List Int × α), tupksD (l.map (dP2 (dT false dI) d)) = some (l.map fun p => p.1)
  | [] => rfl
  | p :: l => by
    have e : tupkD (dP2 (dT false dI) d p) = some p.1 := by
      show intsD (p.1.map dI) = some p.1
      have : ∀ ns : List Int, intsD (ns.map dI) = some ns := by
        intro ns
        induction ns with
        | nil => rfl
        | cons n ns ih =>
          show (intsD (ns.map dI)).map (n :: ·) = _
          rw [ih]; rfl
      exact this p.1
    show (tupkD (dP2 (dT false dI) d p)).bind (fun k => (tupksD (l.map (dP2 (dT false dI) d))).map (k :: ·)) = _
    rw [e, tupksD_map d l]; rfl
theorem op_sortedDT {x : O} {d : α → D} {l : List (List Int × α)} (h : itemsD x = some (true, l.map (dP2 (dT false dI) d))) : EG (ofO (oSortedDT [x])) (srtDT l) (oL (sh (dT false dI))) := by
  have e : oSortedDT [x] = ((itemsD x).bind fun p => if p.1 then (tupksD p.2).bind fun kss => if kss.all (fun ns => !ns.isEmpty) then some (O.lst ((sortLx (ddL [] kss)).map fun ns => .sh (.tup false (ns.map D.int)))) else none else none) := rfl
  rw [e, h, Option.bind_some, if_pos rfl, tupksD_map d l, Option.bind_some]
  have e2 : (l.map fun p => p.1).all (fun ns => !ns.isEmpty) = l.all fun p => !p.1.isEmpty := by rw [List.all_map]; rfl
  rw [e2]
  unfold srtDT
  by_cases hb : (l.all fun p => !p.1.isEmpty) = true
  · rw [if_pos hb, hb]; exact rfl
  · rw [if_neg hb]
    have hb' : (l.all fun p => !p.1.isEmpty) = false := by simpa using hb
    rw [hb']; trivial
end
end FD.Ty


set_option Elab.async false
set_option linter.all false
set_option maxRecDepth 100000
namespace FD.Ty
open PySem L2 FD
section
variable {α : Type}
theorem okD_T [DecidableEq α] {n : Nat} {d : α → D} (h : EqD n d) (m : Bool) (l : List α) : okD (n + 1) (dT m d l) = true := (EqD_tup (m := m) h).ok l
theorem deq_TT [DecidableEq α] {n : Nat} {d : α → D} (h : EqD n d) (m m' : Bool) (a b : List α) : deq (dT m d a) (dT m' d b) = decide (a = b) := (deq_tup m m' _ _).trans (deqL_map d h.eq a b)
theorem op_eqX [DecidableEq α] {d : α → D} {a b : Bool × List α} (h : EqD 59 d) : EG (ofO (oEq (sh (dX d) a) (sh (dX d) b))) (.ok (decide (a.2 = b.2))) (sh dB) := by
  have hx : (sh (dX d) a).frz = dT a.1 d a.2 := by exact frz_sh _
  have hy : (sh (dX d) b).frz = dT b.1 d b.2 := by exact frz_sh _
  rw [oEq_of (by rw [hx]; exact okD_T h _ _) (by rw [hy]; exact okD_T h _ _), hx, hy, deq_TT h]; exact rfl
end
end FD.Ty


set_option Elab.async false
set_option linter.all false
set_option synthInstance.maxSize 2000
set_option maxRecDepth 100000
set_option maxHeartbeats 4000000
namespace FD.K46
open PySem L2 FD FD.Ty
noncomputable def t_law_dice (p0 : Int) : M (List Int) := finT (κ := Unit) (if (decide (((0 : Int) - (10 : Int)) < p0) && decide (p0 < (10 : Int))) then .rt ([(if p0 < 0 then -p0 else p0), (0 : Int), (2 : Int)] : List Int) else (.rt ([p0, ((1 : Int) + (p0 % (1009 : Int))), (if (decide ((1000000000000000000 : Int) ≤ p0)) = true then 1 else 0)] : List Int)))
theorem ref_t_law_dice (p0 : Int) : RF 0 (T__law_dice [(sh dI) p0]) (t_law_dice p0) (oL (sh dI)) (fun _ => []) := RF_fn (L := fun _ _ => False) rfl (SR_ifrp (EG_bT (EG_chainp (a := decide (((0 : Int) - (10 : Int)) < p0)) (b := decide (p0 < (10 : Int))) (EG.unit (EG_b2 (EG.bindp (EG.of (e := (sh dI)) (v := (0 : Int)) rfl) (EG.bindp (EG.of (e := (sh dI)) (v := (10 : Int)) rfl) (EG.of (e := sh dI) (v := (0 : Int) - (10 : Int)) rfl))))) (EG.unit (EG_sh (d := dI) (v := p0) rfl)) (EG.unit (EG.of (e := (sh dI)) (v := (10 : Int)) rfl)) rfl rfl)) (EX_pE (EG.cop (fun _ => ([(if p0 < 0 then -p0 else p0), (0 : Int), (2 : Int)] : List Int)) (oL (sh dI)) (EG_bLst (k := 3) (EG_consp (EG_bNp (EG_consp (EG_sh (d := dI) (v := p0) rfl) EG_nil) (EG.of (e := sh dI) (v := if p0 < 0 then -p0 else p0) rfl)) (EG_consp (EG.of (e := (sh dI)) (v := (0 : Int)) rfl) (EG_consp (EG.of (e := (sh dI)) (v := (2 : Int)) rfl) EG_nil))) (fun _ => rfl) (fun _ => rfl) (by decide)) (fun _ => rfl))) rfl (SR_retp (w := ([p0, ((1 : Int) + (p0 % (1009 : Int))), (if (decide ((1000000000000000000 : Int) ≤ p0)) = true then 1 else 0)] : List Int)) (EX.co (t := R.ok ()) (fun _ => ([p0, ((1 : Int) + (p0 % (1009 : Int))), (if (decide ((1000000000000000000 : Int) ≤ p0)) = true then 1 else 0)] : List Int)) (oL (sh dI)) (fun _ => [some ((sh dI) p0)]) (EX_eLst (k := 3) (EX_consp (x := p0) (EX_pE (EG_sh (d := dI) (v := p0) rfl)) (EX_consp (x := ((1 : Int) + (p0 % (1009 : Int)))) (EX_pE (EG.frz (r := R.stk) (EG_b2 (EG.bindp (EG.of (e := (sh dI)) (v := (1 : Int)) rfl) (EG.bindp (EG_b2 (EG.bindp (EG_bNp (EG_consp (EG_sh (d := dI) (v := p0) rfl) EG_nil) (EG.of (e := sh dI) (v := p0) rfl)) (EG.bindp (EG.of (e := (sh dI)) (v := (1009 : Int)) rfl) (op_modc p0 (by decide))))) (EG.of (e := sh dI) (v := (1 : Int) + (p0 % (1009 : Int))) rfl)))) (fz_sh (d := dI)))) (EX_consp (x := (if (decide ((1000000000000000000 : Int) ≤ p0)) = true then 1 else 0)) (EX_pE (EG_bNp (EG_consp (EG_b2 (EG.bindp (EG_sh (d := dI) (v := p0) rfl) (EG.bindp (EG_b2 (EG.bindp (EG.of (e := (sh dI)) (v := (10 : Int)) rfl) (EG.bindp (EG.of (e := (sh dI)) (v := (18 : Int)) rfl) (EG.of (e := sh dI) (v := (1000000000000000000 : Int)) rfl)))) (op_oGe p0 (1000000000000000000 : Int))))) EG_nil) (EG.of (e := sh dI) (v := if (decide ((1000000000000000000 : Int) ≤ p0)) = true then 1 else 0) rfl))) EX_nil))) (fun _ => rfl) (by decide)) (fun _ => rfl) (fun _ => rfl)) rfl))
noncomputable def t_law_rounds (p0 : (List Int)) (p1 : Int) : M (List (List Int)) := finT (κ := Unit) (thn (R.ok (cutG p0 (none : Option Int) (some p1))) fun x1 => (sq (if (decide (x1 = ([] : List Int))) then (thn (R.ok ([(0 : Int)] : List Int)) fun x3 => (.nx x3)) else (.nx x1)) fun s4 => (thn (grd (szOk s4.length) (lcM (fun a5 => (R.ok true)) (fun a5 => (t_law_dice a5)) s4) R.stk) fun x7 => .rt x7)))
theorem ref_t_law_rounds (p0 : (List Int)) (p1 : Int) : RF 0 (T__law_rounds [(sh (dF dI)) p0, (sh dI) p1]) (t_law_rounds p0 p1) (oL (oL (sh dI))) (fun _ => []) := RF_fn (L := fun _ _ => False) rfl (SR_set (t := R.ok (cutG p0 (none : Option Int) (some p1))) (EX_pE (EG.frz (r := R.stk) (EG_bSlS (EG.bindp (EG_sh (d := (dF dI)) (v := p0) rfl) (EG.bindp (EG.of (e := id) (v := none) rfl) (EG.bindp (EG.cop some id (EG_pI (EG_sh (d := dI) (v := p1) rfl)) (fun _ => rfl)) (op_slS dI p0 (none : Option Int) (some p1)))))) (fz_oL (fz_sh (d := dI))))) fun x1 => (SR_ifp (B := (fun (s : (List Int)) (env : En) => env = [some ((sh (dF dI)) p0), some ((sh dI) p1), some ((sh (dL dI)) s), none])) (EG_bT (EG_b2 (EG.bindp (EG_sh (d := (dL dI)) (v := x1) rfl) (EG.bindp (EG.cop (fun _ => ([] : List Int)) (oL (sh dI)) (EG_bLst (k := 0) EG_nil (fun _ => rfl) (fun _ => rfl) (by decide)) (fun _ => rfl)) (op_eq (a := x1) (b := ([] : List Int)) (EqD_lst EqD_int) ((fz_sh (d := (dL dI))) _) ((fz_oL (fz_sh (d := dI))) _)))))) (SR_set (t := R.ok ([(0 : Int)] : List Int)) (EX_pE (EG.frz (r := R.stk) (EG.cop (fun _ => ([(0 : Int)] : List Int)) (oL (sh dI)) (EG_bLst (k := 1) (EG_consp (EG.of (e := (sh dI)) (v := (0 : Int)) rfl) EG_nil) (fun _ => rfl) (fun _ => rfl) (by decide)) (fun _ => rfl)) (fz_oL (fz_sh (d := dI))))) fun x3 => (SR_nil (s := (x3 : (List Int))) rfl)) (SR_nil (s := (x1 : (List Int))) rfl) (fun s4 e8 he => by subst he; exact (SR_ret (w := fun (x7 : (List (List Int))) => x7) (EX_pE (EG_lcmp (EG_jLst (EG_sh (d := (dL dI)) (v := s4) rfl)) fun a5 => ⟨_, rfl, (EG.of (e := id) rfl), (EG_callp (EG_consp (EG_sh (d := dI) (v := a5) rfl) EG_nil) rfl (ref_t_law_dice a5))⟩)) (fun _ => rfl)))))
noncomputable def t_law_roll (p0 : (List Int)) (p1 : Int) : M (Int × (List Int)) := finX (κ := Unit) (thn (R.bind (R.bind (atM p0 (2 : Int)) fun x1 => R.ok (decide (x1 = (2 : Int)))) fun b => grd b (R.ok true) (R.bind (R.bind (atM p0 (2 : Int)) fun x2 => R.ok (decide (x2 = (1 : Int)))) fun b => grd b (R.bind (atM p0 (0 : Int)) fun x3 => R.ok (decide ((0 : Int) < x3))) (R.ok false))) fun b => if b then (sq (thn (R.bind (R.bind (atM p0 (0 : Int)) fun x4 => (R.ok x4)) fun x5 => (modM x5 p1)) fun x6 => (thn (R.bind (atM p0 (0 : Int)) fun x7 => (divM x7 p1)) fun x8 => thn (setM p0 (0 : Int) x8) fun l9 => (.rt (x6, l9)))) fun (z : Empty) => z.elim) else (thn (setM p0 (2 : Int) (0 : Int)) fun l11 => (thn (R.bind (R.bind (R.bind (R.bind (R.bind (atM l11 (0 : Int)) fun x12 => R.ok (x12 * (48271 : Int))) fun x14 => (R.bind (R.bind (atM l11 (1 : Int)) fun x13 => R.ok (x13 * (69621 : Int))) fun x15 => R.ok (x14 + x15))) fun x16 => R.ok (x16 + (11 : Int))) fun x17 => (R.ok x17)) fun x18 => R.ok (x18 % (2147483647 : Int))) fun x19 => thn (setM l11 (0 : Int) x19) fun l20 => (thn (R.bind (atM l20 (1 : Int)) fun x21 => R.ok (x21 + (1 : Int))) fun x22 => thn (setM l20 (1 : Int) x22) fun l23 => (thn (R.bind (R.bind (R.bind (R.bind (atM l23 (0 : Int)) fun x24 => R.ok (x24 / (7 : Int))) fun x25 => (R.bind (atM l23 (0 : Int)) fun x26 => R.ok (x25 + x26))) fun x27 => (R.ok x27)) fun x28 => (modM x28 p1)) fun x29 => .rt (x29, l23))))))
theorem ref_t_law_roll (p0 : (List Int)) (p1 : Int) : RF 1 (T__law_roll [(oL (sh dI)) p0, (sh dI) p1]) (t_law_roll p0 p1) (fun v => (sh dI) v.1) (fun v => [(oL (sh dI)) v.2]) := RF_fnX (L := fun _ _ => False) rfl (SR_ifl (EG_or (EG_bT (EG_b2 (EG.bind (EG_b2 (EG.bindp (EG_var (e := (oL (sh dI))) (v := p0) rfl) (EG.bindp (EG.of (e := (sh dI)) (v := (2 : Int)) rfl) (op_at (itD_own dI _))))) fun x1 => (EG.bindp (EG.of (e := (sh dI)) (v := (2 : Int)) rfl) (op_eq (a := x1) (b := (2 : Int)) EqD_int ((fz_sh (d := dI)) _) ((fz_sh (d := dI)) _)))))) (EG_and (EG_bT (EG_b2 (EG.bind (EG_b2 (EG.bindp (EG_var (e := (oL (sh dI))) (v := p0) rfl) (EG.bindp (EG.of (e := (sh dI)) (v := (2 : Int)) rfl) (op_at (itD_own dI _))))) fun x2 => (EG.bindp (EG.of (e := (sh dI)) (v := (1 : Int)) rfl) (op_eq (a := x2) (b := (1 : Int)) EqD_int ((fz_sh (d := dI)) _) ((fz_sh (d := dI)) _)))))) (EG_bT (EG_b2 (EG.bind (EG_b2 (EG.bindp (EG_var (e := (oL (sh dI))) (v := p0) rfl) (EG.bindp (EG.of (e := (sh dI)) (v := (0 : Int)) rfl) (op_at (itD_own dI _))))) fun x3 => (EG.bindp (EG.of (e := (sh dI)) (v := (0 : Int)) rfl) (op_oGt x3 (0 : Int)))))))) (SR_set (EX_pE (EG_b2 (EG.bind (EG_bN (EG_consm (γ := Unit) (u := ()) (EG_b2 (EG.bindp (EG_var (e := (oL (sh dI))) (v := p0) rfl) (EG.bindp (EG.of (e := (sh dI)) (v := (0 : Int)) rfl) (op_at (itD_own dI _))))) EG_nil) fun x4 => (EG.of (e := sh dI) (v := x4) rfl)) fun x5 => (EG.bindp (EG_sh (d := dI) (v := p1) rfl) (op_mod x5 p1))))) fun x6 => (SR_setIxj (j := fun x8 => (0 : Int)) (x := fun x8 => x8) (l := fun x8 => p0) (e := (sh dI)) (EX_pE (EG_b2 (EG.bind (EG_b2 (EG.bindp (EG_var (e := (oL (sh dI))) (v := p0) rfl) (EG.bindp (EG.of (e := (sh dI)) (v := (0 : Int)) rfl) (op_at (itD_own dI _))))) fun x7 => (EG.bindp (EG_sh (d := dI) (v := p1) rfl) (op_div x7 p1))))) (fun _ => rfl) (fun x8 => (EG.of (e := (sh dI)) (v := (0 : Int)) rfl)) (fun _ => rfl) fun x8 l9 => (SR_retp (w := (x6, l9)) (EX_pE (EG_sh (d := dI) (v := x6) rfl)) ⟨rfl, rfl⟩))) (SR_setIx (x := (0 : Int)) (l := p0) (e := (sh dI)) (EX_pE (EG.of (e := (sh dI)) (v := (0 : Int)) rfl)) rfl (EG.of (e := (sh dI)) (v := (2 : Int)) rfl) rfl fun l11 => (SR_setIxj (j := fun x19 => (0 : Int)) (x := fun x19 => x19) (l := fun x19 => l11) (e := (sh dI)) (EX_pE (EG_b2 (EG.bind (EG_bN (EG_consm (γ := Unit) (u := ()) (EG_b2 (EG.bind (EG_b2 (EG.bind (EG_b2 (EG.bind (EG_b2 (EG.bindp (EG_var (e := (oL (sh dI))) (v := l11) rfl) (EG.bindp (EG.of (e := (sh dI)) (v := (0 : Int)) rfl) (op_at (itD_own dI _))))) fun x12 => (EG.bindp (EG.of (e := (sh dI)) (v := (48271 : Int)) rfl) (op_mulc x12 (okI_of (by decide) (by decide)))))) fun x14 => (EG.bind (EG_b2 (EG.bind (EG_b2 (EG.bindp (EG_var (e := (oL (sh dI))) (v := l11) rfl) (EG.bindp (EG.of (e := (sh dI)) (v := (1 : Int)) rfl) (op_at (itD_own dI _))))) fun x13 => (EG.bindp (EG.of (e := (sh dI)) (v := (69621 : Int)) rfl) (op_mulc x13 (okI_of (by decide) (by decide)))))) fun x15 => (EG.of (e := sh dI) (v := x14 + x15) rfl)))) fun x16 => (EG.bindp (EG.of (e := (sh dI)) (v := (11 : Int)) rfl) (EG.of (e := sh dI) (v := x16 + (11 : Int)) rfl)))) EG_nil) fun x17 => (EG.of (e := sh dI) (v := x17) rfl)) fun x18 => (EG.bindp (EG.of (e := (sh dI)) (v := (2147483647 : Int)) rfl) (op_modc x18 (by decide)))))) (fun _ => rfl) (fun x19 => (EG.of (e := (sh dI)) (v := (0 : Int)) rfl)) (fun _ => rfl) fun x19 l20 => (SR_setIxj (j := fun x22 => (1 : Int)) (x := fun x22 => x22) (l := fun x22 => l20) (e := (sh dI)) (EX_pE (EG.frz (r := R.stk) (EG_b2 (EG.bind (EG_b2 (EG.bindp (EG_var (e := (oL (sh dI))) (v := l20) rfl) (EG.bindp (EG.of (e := (sh dI)) (v := (1 : Int)) rfl) (op_at (itD_own dI _))))) fun x21 => (EG.bindp (EG.of (e := (sh dI)) (v := (1 : Int)) rfl) (EG.of (e := sh dI) (v := x21 + (1 : Int)) rfl)))) (fz_sh (d := dI)))) (fun _ => rfl) (fun x22 => (EG.of (e := (sh dI)) (v := (1 : Int)) rfl)) (fun _ => rfl) fun x22 l23 => (SR_ret (w := fun (x29 : Int) => (x29, l23)) (EX_pE (EG_b2 (EG.bind (EG_bN (EG_consm (γ := Unit) (u := ()) (EG_b2 (EG.bind (EG_b2 (EG.bind (EG_b2 (EG.bindp (EG_var (e := (oL (sh dI))) (v := l23) rfl) (EG.bindp (EG.of (e := (sh dI)) (v := (0 : Int)) rfl) (op_at (itD_own dI _))))) fun x24 => (EG.bindp (EG.of (e := (sh dI)) (v := (7 : Int)) rfl) (op_divc x24 (okJ_of (by decide) (by decide)))))) fun x25 => (EG.bind (EG_b2 (EG.bindp (EG_var (e := (oL (sh dI))) (v := l23) rfl) (EG.bindp (EG.of (e := (sh dI)) (v := (0 : Int)) rfl) (op_at (itD_own dI _))))) fun x26 => (EG.of (e := sh dI) (v := x25 + x26) rfl)))) EG_nil) fun x27 => (EG.of (e := sh dI) (v := x27) rfl)) fun x28 => (EG.bindp (EG_sh (d := dI) (v := p1) rfl) (op_mod x28 p1))))) (fun _ => ⟨rfl, rfl⟩))))))
noncomputable def t_law_full (p0 : (List Int)) (p1 : Int) : M ((List Int) × (List Int)) := finX (κ := Unit) (thn (R.bind (rngM (0 : Int) p1) fun x1 => R.bind (R.ok ()) fun v => R.ok (x1, v)) fun x4 => (sq (whT (fun (s13 : ((List Int) × (List Int) × (List Int))) => (R.ok (!decide (s13.2.1 = ([] : List Int))))) (fun (s13 : ((List Int) × (List Int) × (List Int))) => (thn (R.bind (t_law_roll s13.1 (s13.2.1.length : Int)) fun x16 => R.bind (atM s13.2.1 x16.1) fun x18 => R.ok (x18, x16.2)) fun x19 => (thn (appM s13.2.2 x19.1) fun x20 => (thn (remM s13.2.1 x19.1) fun x21 => (.nx (x19.2, x21, x20)))))) fuelW (p0, x4.1, ([] : List Int))) fun s23 => (.rt (s23.2.2, s23.1))))
theorem ref_t_law_full (p0 : (List Int)) (p1 : Int) : RF 1 (T__law_full [(oL (sh dI)) p0, (sh dI) p1]) (t_law_full p0 p1) (fun v => (sh (dT true dI)) v.1) (fun v => [(oL (sh dI)) v.2]) := RF_fnX (L := fun _ _ => False) rfl (SR_par (EX_cons (E2 := fun (w3 : ((List Int) × Unit)) => [some ((oL (sh dI)) p0), some ((sh dI) p1), none, none, none]) (EX_pE (EG_lstR (EG_rg1 (EG_sh (d := dI) (v := p1) rfl)))) fun x1 => (EX_consp (x := ([] : List Int)) (EX_pE (EG.cop (fun _ => ([] : List Int)) (oL (sh dI)) (EG_bLst (k := 0) EG_nil (fun _ => rfl) (fun _ => rfl) (by decide)) (fun _ => rfl))) EX_nil)) (fun _ => rfl) fun x4 => (SR_whl (s0 := (p0, x4.1, ([] : List Int))) (fun (s : ((List Int) × (List Int) × (List Int))) (env : En) => ∃ (j12 : Option O), env = [some ((oL (sh dI)) s.1), some ((sh dI) p1), some ((oL (sh dI)) s.2.1), some ((oL (sh dI)) s.2.2), j12]) ⟨_, rfl⟩ (fun s13 e22 he => by obtain ⟨j14, rfl⟩ := he; exact (EG_bT (EG_b2 (EG.bindp (EG_var (e := (oL (sh dI))) (v := s13.2.1) rfl) (EG.bindp (EG.cop (fun _ => ([] : List Int)) (oL (sh dI)) (EG_bLst (k := 0) EG_nil (fun _ => rfl) (fun _ => rfl) (by decide)) (fun _ => rfl)) (op_ne (a := s13.2.1) (b := ([] : List Int)) (EqD_lst EqD_int) ((fz_oL (fz_sh (d := dI))) _) ((fz_oL (fz_sh (d := dI))) _))))))) (fun s13 e22 he => by obtain ⟨j14, rfl⟩ := he; exact (SR_set (EX_op2v (x0 := (oL (sh dI)) s13.2.1) (x := fun x16 => (oL (sh dI)) s13.2.1) rfl (EX_call (a := ()) (E' := fun v15 => [some ((oL (sh dI)) v15.2), some ((sh dI) p1), some ((oL (sh dI)) s13.2.1), some ((oL (sh dI)) s13.2.2), j14]) (EX_lend (β := Unit) (d := (oL (sh dI)) s13.1) rfl (EX_consp (x := (s13.2.1.length : Int)) (EX_pE (EG_bNp (EG_consp (EG_var (e := (oL (sh dI))) (v := s13.2.1) rfl) EG_nil) (op_lenO (sh dI) s13.2.1))) EX_nil)) (ref_t_law_roll s13.1 (s13.2.1.length : Int)) (fun _ => rfl) (putx_one 0 _)) (fun _ => rfl) fun x16 => (EX_fin (op_at (itD_own dI _)) (fun x18 => (x18, x16.2)) (fun (v17 : (Int × (List Int))) => (sh dI) v17.1) (fun (v17 : (Int × (List Int))) => [some ((oL (sh dI)) v17.2), some ((sh dI) p1), some ((oL (sh dI)) s13.2.1), some ((oL (sh dI)) s13.2.2), j14]) (fun _ => rfl) (fun _ => rfl))) fun x19 => (SR_expr (EX_app (x := x19.1) (l := s13.2.2) (e := (sh dI)) rfl (EX_pE (EG_sh (d := dI) (v := x19.1) rfl)) rfl rfl) fun x20 => (SR_expr (EX_rem (l := s13.2.1) (EG_sh (d := dI) (v := x19.1) rfl) rfl) fun x21 => (SR_nil (s := ((x19.2, x21, x20) : ((List Int) × (List Int) × (List Int)))) ⟨_, rfl⟩))))) (fun s23 e22 he => by obtain ⟨j24, rfl⟩ := he; exact (SR_retp (w := (s23.2.2, s23.1)) (EX_pE (EG_bNp (EG_consp (EG_var (e := (oL (sh dI))) (v := s23.2.2) rfl) EG_nil) (op_tupleMO dI s23.2.2))) ⟨rfl, rfl⟩))))
noncomputable def t_check_list (p0 : (List Int)) (p1 : Int) : M (List Int) := finT (κ := Unit) (thn (R.bind (R.bind (R.bind (grd (szOk p0.length) (R.ok (p0.map fun a1 => (a1, (1 : Int)))) R.stk) fun x2 => (R.ok (mergeG [] x2))) fun x3 => (R.ok (x3.length : Int))) fun x4 => R.ok (!decide (x4 = (p0.length : Int)))) fun b => if b then (sq .stk fun (z : Empty) => z.elim) else (if (p0.any fun a5 => true && (!(decide ((0 : Int) ≤ a5) && decide (a5 < p1)))) then (sq .stk fun (z : Empty) => z.elim) else (.rt p0)))
theorem ref_t_check_list (p0 : (List Int)) (p1 : Int) : RF 0 (T_check_list [(sh (dT true dI)) p0, (sh dI) p1]) (t_check_list p0 p1) (sh (dT true dI)) (fun _ => []) := RF_fn (L := fun _ _ => False) rfl (SR_setp (EX_pE (EG_bNp (EG_consp (EG_sh (d := (dT true dI)) (v := p0) rfl) EG_nil) (op_tupleT true dI p0))) (SR_ifl (EG_bT (EG_b2 (EG.bind (EG_bN (EG_consm (γ := Unit) (u := ()) (EG_bN (EG_consm (γ := Unit) (u := ()) (EG_lcy (EG_jTup (EG_sh (d := (dT true dI)) (v := p0) rfl)) fun a1 => ⟨_, rfl, (EG.cop (fun _ => (a1, (1 : Int))) (sh (dP2 dI dI)) (EG_bTup (k := 2) (EG_consp (EG_sh (d := dI) (v := a1) rfl) (EG_consp (EG.of (e := (sh dI)) (v := (1 : Int)) rfl) EG_nil)) (fun _ => rfl) (fun _ => rfl) (by decide)) (fun _ => rfl))⟩) EG_nil) fun x2 => (op_dict (itD_own (dP2 dI dI) _))) EG_nil) fun x3 => (op_lenKo dI x3)) fun x4 => (EG.bindp (EG_bNp (EG_consp (EG_sh (d := (dT true dI)) (v := p0) rfl) EG_nil) (op_lenT true dI p0)) (op_ne (a := x4) (b := (p0.length : Int)) EqD_int ((fz_sh (d := dI)) _) ((fz_sh (d := dI)) _)))))) SR_stk (SR_iflp (EG_bT (EG_anyp (p := fun a5 => true) (f := fun a5 => (!(decide ((0 : Int) ≤ a5) && decide (a5 < p1)))) (EG_jTup (EG_sh (d := (dT true dI)) (v := p0) rfl)) fun a5 => ⟨_, rfl, (EG.of (e := id) rfl), (EG_notVp (EG_chainp (a := decide ((0 : Int) ≤ a5)) (b := decide (a5 < p1)) (EG.unit (EG.of (e := (sh dI)) (v := (0 : Int)) rfl)) (EG.unit (EG_sh (d := dI) (v := a5) rfl)) (EG.unit (EG_sh (d := dI) (v := p1) rfl)) rfl rfl))⟩)) SR_stk (SR_retp (w := p0) (EX_pE (EG_sh (d := (dT true dI)) (v := p0) rfl)) rfl))))
noncomputable def t_check_lists (p0 : (List (List Int))) : M (List (List Int)) := finT (κ := Unit) (thn (R.ok (p0.length : Int)) fun x1 => (thn (grd (szOk p0.length) (lcM (fun a2 => (R.ok true)) (fun a2 => (t_check_list a2 x1)) p0) R.stk) fun x4 => (if (x4.any fun a5 => true && (!decide ((a5.length : Int) = x1))) then (sq .stk fun (z : Empty) => z.elim) else (.rt x4))))
theorem ref_t_check_lists (p0 : (List (List Int))) : RF 0 (T_check_lists [(sh (dL (dT true dI))) p0]) (t_check_lists p0) (sh (dL (dT true dI))) (fun _ => []) := RF_fn (L := fun _ _ => False) rfl (SR_set (t := R.ok (p0.length : Int)) (EX_pE (EG_bNp (EG_consp (EG_sh (d := (dL (dT true dI))) (v := p0) rfl) EG_nil) (op_lenL (dT true dI) p0))) fun x1 => (SR_set (EX_pE (EG.frz (r := R.stk) (EG_lcmp (EG_jLst (EG_sh (d := (dL (dT true dI))) (v := p0) rfl)) fun a2 => ⟨_, rfl, (EG.of (e := id) rfl), (EG.frz (r := R.stk) (EG_callp (EG_consp (EG_sh (d := (dT true dI)) (v := a2) rfl) (EG_consp (EG_sh (d := dI) (v := x1) rfl) EG_nil)) rfl (ref_t_check_list a2 x1)) (fz_sh (d := (dT true dI))))⟩) (fz_oL (fz_sh (d := (dT true dI)))))) fun x4 => (SR_iflp (EG_bT (EG_anyp (p := fun a5 => true) (f := fun a5 => (!decide ((a5.length : Int) = x1))) (EG_jLst (EG_sh (d := (dL (dT true dI))) (v := x4) rfl)) fun a5 => ⟨_, rfl, (EG.of (e := id) rfl), (EG_b2 (EG.bindp (EG_bNp (EG_consp (EG_sh (d := (dT true dI)) (v := a5) rfl) EG_nil) (op_lenT true dI a5)) (EG.bindp (EG_sh (d := dI) (v := x1) rfl) (op_ne (a := (a5.length : Int)) (b := x1) EqD_int ((fz_sh (d := dI)) _) ((fz_sh (d := dI)) _)))))⟩)) SR_stk (SR_retp (w := x4) (EX_pE (EG_sh (d := (dL (dT true dI))) (v := x4) rfl)) rfl))))
noncomputable def t_circle_from (p0 : (List (Int × Int))) (p1 : Int) : M (List Int) := finT (κ := Unit) (sq (whT (fun (s5 : ((List Int) × Int)) => (R.ok (!memB s5.2 s5.1))) (fun (s5 : ((List Int) × Int)) => (thn (appM s5.1 s5.2) fun x6 => (thn (lookM p0 s5.2) fun x7 => (.nx (x6, x7))))) fuelW (([] : List Int), p1)) fun s9 => (thn (R.bind ((idxM s9.1 s9.2).bind fun v => R.ok (some v)) fun x10 => R.ok (cutG s9.1 x10 (none : Option Int))) fun x11 => (thn (R.bind (R.ok x11) fun l => R.bind (minM x11) fun k => idxM l k) fun x12 => (thn (R.bind (grd (szOk ((cutG x11 (some x12) (none : Option Int)).length + (cutG x11 (none : Option Int) (some x12)).length)) (R.ok ((cutG x11 (some x12) (none : Option Int)) ++ (cutG x11 (none : Option Int) (some x12)))) R.stk) fun x13 => (R.ok x13)) fun x14 => .rt x14))))
theorem ref_t_circle_from (p0 : (List (Int × Int))) (p1 : Int) : RF 0 (T_circle_from [(sh (dK dI)) p0, (sh dI) p1]) (t_circle_from p0 p1) (sh (dT false dI)) (fun _ => []) := RF_fn (L := fun _ _ => False) rfl (SR_parp (EX_consp (x := ([] : List Int)) (EX_pE (EG.cop (fun _ => ([] : List Int)) (oL (sh dI)) (EG_bLst (k := 0) EG_nil (fun _ => rfl) (fun _ => rfl) (by decide)) (fun _ => rfl))) (EX_consp (x := p1) (EX_pE (EG_sh (d := dI) (v := p1) rfl)) EX_nil)) rfl (SR_whl (s0 := (([] : List Int), p1)) (fun (s : ((List Int) × Int)) (env : En) => env = [some ((sh (dK dI)) p0), some ((sh dI) p1), some ((oL (sh dI)) s.1), some ((sh dI) s.2), none, none]) rfl (fun s5 e8 he => by subst he; exact (EG_bT (EG_b2 (EG.bindp (EG_sh (d := dI) (v := s5.2) rfl) (EG.bindp (EG_var (e := (oL (sh dI))) (v := s5.1) rfl) (op_notIn (a := s5.2) (l := s5.1) EqD_int EqD_int ((fz_sh (d := dI)) _) (itP_lst ((fz_oL (fz_sh (d := dI))) _)))))))) (fun s5 e8 he => by subst he; exact (SR_expr (EX_app (x := s5.2) (l := s5.1) (e := (sh dI)) rfl (EX_pE (EG_sh (d := dI) (v := s5.2) rfl)) rfl rfl) fun x6 => (SR_set (EX_pE (EG_b2 (EG.bindp (EG_sh (d := (dK dI)) (v := p0) rfl) (EG.bindp (EG_sh (d := dI) (v := s5.2) rfl) (op_atK dI p0 s5.2))))) fun x7 => (SR_nil (s := ((x6, x7) : ((List Int) × Int))) rfl)))) (fun s9 e8 he => by subst he; exact (SR_set (EX_pE (EG.frz (r := R.stk) (EG_bSl (EG.bindp (EG_var (e := (oL (sh dI))) (v := s9.1) rfl) (EG.bind (EG.co some id (EG_pI (EG_idxOp EqD_int (EG_var (e := (oL (sh dI))) (v := s9.1) rfl) (EG_sh (d := dI) (v := s9.2) rfl))) (fun _ => rfl)) fun x10 => (EG.bindp (EG.of (e := id) (v := none) rfl) (op_slOwn dI s9.1 x10 (none : Option Int)))))) (fz_oL (fz_sh (d := dI))))) fun x11 => (SR_set (EX_pE (EG_idxL EqD_int (EG_sh (d := (dL dI)) (v := x11) rfl) (EG_bNp (EG_consp (EG_sh (d := (dL dI)) (v := x11) rfl) EG_nil) (op_minL (itD_lst dI _))))) fun x12 => (SR_ret (w := fun (x14 : (List Int)) => x14) (EX_pE (EG_bN (EG_consm (γ := Unit) (u := ()) (EG_b2 (EG.bindp (EG_bSl (EG.bindp (EG_sh (d := (dL dI)) (v := x11) rfl) (EG.bindp (EG.cop some id (EG_pI (EG_sh (d := dI) (v := x12) rfl)) (fun _ => rfl)) (EG.bindp (EG.of (e := id) (v := none) rfl) (op_slLst dI x11 (some x12) (none : Option Int)))))) (EG.bindp (EG_bSl (EG.bindp (EG_sh (d := (dL dI)) (v := x11) rfl) (EG.bindp (EG.of (e := id) (v := none) rfl) (EG.bindp (EG.cop some id (EG_pI (EG_sh (d := dI) (v := x12) rfl)) (fun _ => rfl)) (op_slLst dI x11 (none : Option Int) (some x12)))))) (op_plusL (l := (cutG x11 (some x12) (none : Option Int))) (r := (cutG x11 (none : Option Int) (some x12))) (lsO_own dI _) (lsO_own dI _) rfl rfl)))) EG_nil) fun x13 => (op_tupleO dI x13))) (fun _ => rfl)))))))
noncomputable def t_rounds (p0 : (List (List Int))) : M (List (List (List Int))) := finT (κ := Unit) (thn (t_check_lists p0) fun x1 => (thn (rngM (0 : Int) (x1.length : Int)) fun x2 => (sq (whT (fun (s32 : ((List Int) × (List (List (List Int))))) => (R.ok (!decide (s32.1 = ([] : List Int))))) (fun (s32 : ((List Int) × (List (List (List Int))))) => (thn (R.bind (grd (szOk s32.1.length) (lcM (fun a36 => (R.ok true)) (fun a36 => (R.bind (R.bind (R.bind (atM x1 a36) fun l38 => grd (szOk l38.length) (lcM (fun a37 => (R.ok (memB a37 s32.1))) (fun a37 => (R.ok a37)) l38) R.stk) fun x39 => (atM x39 (0 : Int))) fun x40 => R.ok (a36, x40))) s32.1) R.stk) fun x42 => (R.ok (mergeG [] x42))) fun x43 => (thn (R.bind (grd (szOk s32.1.length) (lc0 (fun a44 => R.bind (R.bind (R.bind (t_circle_from x43 a44) fun x45 => R.bind (R.ok ()) fun v => R.ok (x45, v)) fun v48 => R.ok ((v48.1, (1 : Int)), ())) fun x50 => R.ok x50.1) s32.1) R.stk) fun x51 => R.bind (srtDT x51) fun x53 => R.ok (x53, ())) fun x54 => (thn (appM s32.2 x54.1) fun x55 => (thn (R.bind (R.ok x54.1) fun l58 => lc2M (fun a56 => (R.ok true)) (fun a56 => (R.ok a56)) (fun a56 c57 => (R.ok true)) (fun a56 c57 => (R.ok c57)) l58 []) fun x59 => (thn (grd (szOk s32.1.length) (R.ok ((s32.1.filter fun a60 => (!memB a60 x59)).map fun a60 => a60)) R.stk) fun x61 => (.nx (x61, x55)))))))) fuelW (x2, ([] : List (List (List Int))))) fun s63 => (.rt s63.2))))
theorem ref_t_rounds (p0 : (List (List Int))) : RF 0 (T_rounds [(sh (dL (dT true dI))) p0]) (t_rounds p0) (sh (dT false (dT false (dT false dI)))) (fun _ => []) := RF_fn (L := fun _ _ => False) rfl (SR_set (EX_pE (EG.frz (r := R.stk) (EG_callp (EG_consp (EG_sh (d := (dL (dT true dI))) (v := p0) rfl) EG_nil) rfl (ref_t_check_lists p0)) (fz_sh (d := (dL (dT true dI)))))) fun x1 => (SR_set (EX_pE (EG.frz (r := R.stk) (EG_lstR (EG_rg1 (EG_bNp (EG_consp (EG_sh (d := (dL (dT true dI))) (v := x1) rfl) EG_nil) (op_lenL (dT true dI) x1)))) (fz_oL (fz_sh (d := dI))))) fun x2 => (SR_setp (EX_pE (EG.cop (fun _ => ([] : List (List (List Int)))) (oL (sh (dT false (dT false dI)))) (EG_bLst (k := 0) EG_nil (fun _ => rfl) (fun _ => rfl) (by decide)) (fun _ => rfl))) (SR_whl (s0 := (x2, ([] : List (List (List Int))))) (fun (s : ((List Int) × (List (List (List Int))))) (env : En) => ∃ (j29 j30 j31 : Option O), env = [some ((sh (dL (dT true dI))) p0), some ((sh (dL (dT true dI))) x1), some ((sh (dL dI)) s.1), some ((oL (sh (dT false (dT false dI)))) s.2), j29, j30, j31, none, none, none]) ⟨_, _, _, rfl⟩ (fun s32 e62 he => by obtain ⟨j33, j34, j35, rfl⟩ := he; exact (EG_bT (EG_b2 (EG.bindp (EG_sh (d := (dL dI)) (v := s32.1) rfl) (EG.bindp (EG.cop (fun _ => ([] : List Int)) (oL (sh dI)) (EG_bLst (k := 0) EG_nil (fun _ => rfl) (fun _ => rfl) (by decide)) (fun _ => rfl)) (op_ne (a := s32.1) (b := ([] : List Int)) (EqD_lst EqD_int) ((fz_sh (d := (dL dI))) _) ((fz_oL (fz_sh (d := dI))) _))))))) (fun s32 e62 he => by obtain ⟨j33, j34, j35, rfl⟩ := he; exact (SR_set (EX_pE (EG.frz (r := R.stk) (EG_bN (EG_consm (γ := Unit) (u := ()) (EG_lcmp (EG_jLst (EG_sh (d := (dL dI)) (v := s32.1) rfl)) fun a36 => ⟨_, rfl, (EG.of (e := id) rfl), (EG.co (fun x40 => (a36, x40)) (sh (dP2 dI dI)) (EG_bTup (k := 2) (EG_consp (EG_sh (d := dI) (v := a36) rfl) (EG_consm (γ := Unit) (u := ()) (EG_b2 (EG.bind (EG_lcm (EG_jTup (EG_b2 (EG.bindp (EG_sh (d := (dL (dT true dI))) (v := x1) rfl) (EG.bindp (EG_sh (d := dI) (v := a36) rfl) (op_at (itD_lst (dT true dI) _)))))) fun a37 => ⟨_, rfl, (EG_bT (EG_b2 (EG.bindp (EG_sh (d := dI) (v := a37) rfl) (EG.bindp (EG_sh (d := (dL dI)) (v := s32.1) rfl) (op_in (a := a37) (l := s32.1) EqD_int EqD_int ((fz_sh (d := dI)) _) (itP_lst ((fz_sh (d := (dL dI))) _))))))), (EG_sh (d := dI) (v := a37) rfl)⟩) fun x39 => (EG.bindp (EG.of (e := (sh dI)) (v := (0 : Int)) rfl) (op_at (itD_own dI _))))) EG_nil)) (fun _ => rfl) (fun _ => rfl) (by decide)) (fun _ => rfl))⟩) EG_nil) fun x42 => (op_dict (itD_own (dP2 dI dI) _))) (fz_oK dI))) fun x43 => (SR_set (EX.frz (d := fun (v : ((List (List Int)) × Unit)) => (dL (dT false dI)) v.1) (EX_e1 (EX.bind (EX_lc0p (e := (sh (dP2 (dT false dI) dI))) (Es := [some ((sh (dL (dT true dI))) p0), some ((sh (dL (dT true dI))) x1), some ((sh (dL dI)) s32.1), some ((oL (sh (dT false (dT false dI)))) s32.2), some ((sh (dK dI)) x43), j34, j35, none, none, none]) (Ef := [some ((sh (dL (dT true dI))) p0), some ((sh (dL (dT true dI))) x1), some ((sh (dL dI)) s32.1), some ((oL (sh (dT false (dT false dI)))) s32.2), some ((sh (dK dI)) x43), j34, j35, none, none, none]) (EG_jLst (EG_sh (d := (dL dI)) (v := s32.1) rfl)) rfl (fun a44 => ⟨_, _, rfl, (EX.co (fun x50 => x50.1) (sh (dP2 (dT false dI) dI)) (fun _ => [some ((sh (dL (dT true dI))) p0), some ((sh (dL (dT true dI))) x1), some ((sh (dL dI)) s32.1), some ((oL (sh (dT false (dT false dI)))) s32.2), some ((sh (dK dI)) x43), j34, j35, some ((sh dI) a44), none, none]) (EX.co (fun (v48 : ((List Int) × Unit)) => ((v48.1, (1 : Int)), ())) (fun (u49 : (((List Int) × Int) × Unit)) => (sh (dP2 (dT false dI) dI)) u49.1) (fun (u49 : (((List Int) × Int) × Unit)) => [some ((sh (dL (dT true dI))) p0), some ((sh (dL (dT true dI))) x1), some ((sh (dL dI)) s32.1), some ((oL (sh (dT false (dT false dI)))) s32.2), some ((sh (dK dI)) x43), j34, j35, some ((sh dI) a44), none, none]) (EX_eTup (k := 2) (d := fun (v48 : ((List Int) × Unit)) => (dP2 (dT false dI) dI) (v48.1, (1 : Int))) (EX_cons (E2 := fun (w47 : ((List Int) × Unit)) => [some ((sh (dL (dT true dI))) p0), some ((sh (dL (dT true dI))) x1), some ((sh (dL dI)) s32.1), some ((oL (sh (dT false (dT false dI)))) s32.2), some ((sh (dK dI)) x43), j34, j35, some ((sh dI) a44), none, none]) (EX_pE (EG.frz (r := R.stk) (EG_callp (EG_consp (EG_sh (d := (dK dI)) (v := x43) rfl) (EG_consp (EG_sh (d := dI) (v := a44) rfl) EG_nil)) rfl (ref_t_circle_from x43 a44)) (fz_sh (d := (dT false dI))))) fun x45 => (EX_consp (x := (1 : Int)) (EX_pE (EG.of (e := (sh dI)) (v := (1 : Int)) rfl)) EX_nil)) (fun _ => rfl) (by decide) (fun (v48 : ((List Int) × Unit)) => (by simp only [List.map_cons, List.map_nil]; rw [show ((sh (dT false dI)) v48.1).frz = (dT false dI) v48.1 from (fz_sh (d := (dT false dI))) _]; rw [show ((sh dI) (1 : Int)).frz = dI (1 : Int) from (fz_sh (d := dI)) _]))) (fun _ => rfl) (fun _ => rfl)) (fun _ => rfl) (fun _ => rfl)), fun _ => rfl⟩) rfl) fun x51 => (EX_fin (op_sortedDT (itD_own (dP2 (dT false dI) dI) _)) (fun x53 => (x53, ())) (fun (v52 : ((List (List Int)) × Unit)) => (oL (sh (dT false dI))) v52.1) (fun (v52 : ((List (List Int)) × Unit)) => [some ((sh (dL (dT true dI))) p0), some ((sh (dL (dT true dI))) x1), some ((sh (dL dI)) s32.1), some ((oL (sh (dT false (dT false dI)))) s32.2), some ((sh (dK dI)) x43), j34, j35, none, none, none]) (fun _ => rfl) (fun _ => rfl)))) (fun v => (fz_oL (fz_sh (d := (dT false dI)))) v.1)) fun x54 => (SR_expr (EX_app (x := x54.1) (l := s32.2) (e := (sh (dT false (dT false dI)))) rfl (EX_pE (EG_bNp (EG_consp (EG_sh (d := (dL (dT false dI))) (v := x54.1) rfl) EG_nil) (op_tupleL (dT false dI) x54.1))) rfl rfl) fun x55 => (SR_set (EX_pE (EG.frz (r := R.stk) (EG_lc2 (EG_jLst (EG_sh (d := (dL (dT false dI))) (v := x54.1) rfl)) fun a56 => ⟨_, rfl, (EG.of (e := id) rfl), (EG_jTup (EG_sh (d := (dT false dI)) (v := a56) rfl)), fun c57 => ⟨_, rfl, (EG.of (e := id) rfl), (EG_sh (d := dI) (v := c57) rfl)⟩⟩) (fz_oL (fz_sh (d := dI))))) fun x59 => (SR_set (EX_pE (EG.frz (r := R.stk) (EG_lcp (EG_jLst (EG_sh (d := (dL dI)) (v := s32.1) rfl)) fun a60 => ⟨_, rfl, (EG_bT (EG_b2 (EG.bindp (EG_sh (d := dI) (v := a60) rfl) (EG.bindp (EG_sh (d := (dL dI)) (v := x59) rfl) (op_notIn (a := a60) (l := x59) EqD_int EqD_int ((fz_sh (d := dI)) _) (itP_lst ((fz_sh (d := (dL dI))) _))))))), (EG_sh (d := dI) (v := a60) rfl)⟩) (fz_oL (fz_sh (d := dI))))) fun x61 => (SR_nil (s := ((x61, x55) : ((List Int) × (List (List (List Int)))))) ⟨_, _, _, rfl⟩))))))) (fun s63 e62 he => by obtain ⟨j64, j65, j66, rfl⟩ := he; exact (SR_retp (w := s63.2) (EX_pE (EG_bNp (EG_consp (EG_var (e := (oL (sh (dT false (dT false dI))))) (v := s63.2) rfl) EG_nil) (op_tupleO (dT false (dT false dI)) s63.2))) rfl))))))
noncomputable def t_exchanged_by (p0 : (List (List Int))) (p1 : Int) : M (List (Option Int)) := finT (κ := Unit) (thn (repM ([(none : Option Int)] : List (Option Int)) p1) fun x1 => (sq (forT (fun (a21 : (List Int)) (s22 : (List (Option Int))) => (sq (forT (fun (a31 : (Int × Int)) (s32 : (List (Option Int))) => (thn (R.bind (modM (a31.1 + (1 : Int)) (a21.length : Int)) fun x35 => (atM a21 x35)) fun x36 => thn (setM s32 a31.2 (some x36)) fun l37 => (.nx l37))) (enumT a21) s22) fun s39 => (.nx s39))) p0 x1) fun s43 => (.rt s43)))
theorem ref_t_exchanged_by (p0 : (List (List Int))) (p1 : Int) : RF 0 (T_exchanged_by [(sh (dL (dT false dI))) p0, (sh dI) p1]) (t_exchanged_by p0 p1) (sh (dT false (dO dI))) (fun _ => []) := RF_fn (L := fun _ _ => False) rfl (SR_set (EX_pE (EG_b2 (EG.bindp (EG.cop (fun _ => ([(none : Option Int)] : List (Option Int))) (oL (sh (dO dI))) (EG_bLst (k := 1) (EG_consp (EG.cop (fun _ => (none : Option Int)) (sh (dO dI)) (EG.of (e := (sh dN)) (v := ()) rfl) (fun _ => rfl)) EG_nil) (fun _ => rfl) (fun _ => rfl) (by decide)) (fun _ => rfl)) (EG.bindp (EG_sh (d := dI) (v := p1) rfl) (op_rep (l := ([(none : Option Int)] : List (Option Int))) (lsO_own (dO dI) _) rfl))))) fun x1 => (SR_forp (s0 := x1) (fun (s : (List (Option Int))) (env : En) => ∃ (j18 j19 j20 : Option O), env = [some ((sh (dL (dT false dI))) p0), some ((sh dI) p1), some ((oL (sh (dO dI))) s), j18, j19, j20]) (EG_jLst (EG_sh (d := (dL (dT false dI))) (v := p0) rfl)) ⟨_, _, _, rfl⟩ (fun a21 s22 e42 he => by obtain ⟨j23, j24, j25, rfl⟩ := he; exact ⟨_, rfl, (SR_forp (s0 := s22) (fun (s : (List (Option Int))) (env : En) => ∃ (j29 j30 : Option O), env = [some ((sh (dL (dT false dI))) p0), some ((sh dI) p1), some ((oL (sh (dO dI))) s), some ((sh (dT false dI)) a21), j29, j30]) (EG_jEnump (EG_jTup (EG_sh (d := (dT false dI)) (v := a21) rfl))) ⟨_, _, rfl⟩ (fun a31 s32 e38 he => by obtain ⟨j33, j34, rfl⟩ := he; exact ⟨_, rfl, (SR_setIxj (j := fun x36 => a31.2) (x := fun x36 => (some x36)) (l := fun x36 => s32) (e := (sh (dO dI))) (EX_pE (EG_b2 (EG.bindp (EG_sh (d := (dT false dI)) (v := a21) rfl) (EG.bind (EG_b2 (EG.bindp (EG_b2 (EG.bindp (EG_sh (d := dI) (v := a31.1) rfl) (EG.bindp (EG.of (e := (sh dI)) (v := (1 : Int)) rfl) (EG.of (e := sh dI) (v := a31.1 + (1 : Int)) rfl)))) (EG.bindp (EG_bNp (EG_consp (EG_sh (d := (dT false dI)) (v := a21) rfl) EG_nil) (op_lenT false dI a21)) (op_mod (a31.1 + (1 : Int)) (a21.length : Int))))) fun x35 => (op_at (itD_tup false dI _)))))) (fun _ => rfl) (fun x36 => (EG_sh (d := dI) (v := a31.2) rfl)) (fun _ => rfl) fun x36 l37 => (SR_nil (s := (l37 : (List (Option Int)))) ⟨_, _, rfl⟩))⟩) (fun s39 e38 he => by obtain ⟨j40, j41, rfl⟩ := he; exact (SR_nil (s := (s39 : (List (Option Int)))) ⟨_, _, _, rfl⟩)))⟩) (fun s43 e42 he => by obtain ⟨j44, j45, j46, rfl⟩ := he; exact (SR_retp (w := s43) (EX_pE (EG_bNp (EG_consp (EG_var (e := (oL (sh (dO dI)))) (v := s43) rfl) EG_nil) (op_tupleO (dO dI) s43))) rfl))))
noncomputable def t_trade (p0 : (List (List Int))) : M (List (Option Int)) := finT (κ := Unit) (thn (R.bind (t_rounds p0) fun l3 => lc2M (fun a1 => (R.ok true)) (fun a1 => (R.ok a1)) (fun a1 c2 => (R.ok true)) (fun a1 c2 => (R.ok c2)) l3 []) fun x4 => (thn (t_exchanged_by x4 (p0.length : Int)) fun x5 => .rt x5))
theorem ref_t_trade (p0 : (List (List Int))) : RF 0 (T_trade [(sh (dL (dT true dI))) p0]) (t_trade p0) (sh (dT false (dO dI))) (fun _ => []) := RF_fn (L := fun _ _ => False) rfl (SR_set (EX_pE (EG.frz (r := R.stk) (EG_lc2 (EG_jTup (EG.frz (r := R.stk) (EG_callp (EG_consp (EG_sh (d := (dL (dT true dI))) (v := p0) rfl) EG_nil) rfl (ref_t_rounds p0)) (fz_sh (d := (dT false (dT false (dT false dI))))))) fun a1 => ⟨_, rfl, (EG.of (e := id) rfl), (EG_jTup (EG_sh (d := (dT false (dT false dI))) (v := a1) rfl)), fun c2 => ⟨_, rfl, (EG.of (e := id) rfl), (EG_sh (d := (dT false dI)) (v := c2) rfl)⟩⟩) (fz_oL (fz_sh (d := (dT false dI)))))) fun x4 => (SR_ret (w := fun (x5 : (List (Option Int))) => x5) (EX_pE (EG_callp (EG_consp (EG_sh (d := (dL (dT false dI))) (v := x4) rfl) (EG_consp (EG_bNp (EG_consp (EG_sh (d := (dL (dT true dI))) (v := p0) rfl) EG_nil) (op_lenL (dT true dI) p0)) EG_nil)) rfl (ref_t_exchanged_by x4 (p0.length : Int)))) (fun _ => rfl)))
noncomputable def t_in_turn (p0 : (List (List Int))) (p1 : (List Int)) : M (List (Option Int)) := finT (κ := Unit) (thn (repM ([(none : Option Int)] : List (Option Int)) (p0.length : Int)) fun x1 => (sq (forT (fun (a17 : Int) (s18 : ((List (Option Int)) × (List Int))) => (thn (R.bind (atM p0 a17) fun l22 => grd (szOk l22.length) (lcM (fun a21 => (R.ok (!memB a21 s18.2))) (fun a21 => (R.ok a21)) l22) R.stk) fun x23 => (sq (if (!decide (x23 = ([] : List Int))) then (thn (atM x23 (0 : Int)) fun x28 => thn (setM s18.1 a17 (some x28)) fun l29 => (thn (R.bind (atM x23 (0 : Int)) fun x30 => appM s18.2 x30) fun x31 => (.nx (l29, x31)))) else (.nx (s18.1, s18.2))) fun s32 => (.nx (s32.1, s32.2))))) p1 (x1, ([] : List Int))) fun s35 => (.rt s35.1)))
theorem ref_t_in_turn (p0 : (List (List Int))) (p1 : (List Int)) : RF 0 (T_in_turn [(sh (dL (dT true dI))) p0, (sh (dT true dI)) p1]) (t_in_turn p0 p1) (sh (dT false (dO dI))) (fun _ => []) := RF_fn (L := fun _ _ => False) rfl (SR_set (EX_pE (EG_b2 (EG.bindp (EG.cop (fun _ => ([(none : Option Int)] : List (Option Int))) (oL (sh (dO dI))) (EG_bLst (k := 1) (EG_consp (EG.cop (fun _ => (none : Option Int)) (sh (dO dI)) (EG.of (e := (sh dN)) (v := ()) rfl) (fun _ => rfl)) EG_nil) (fun _ => rfl) (fun _ => rfl) (by decide)) (fun _ => rfl)) (EG.bindp (EG_bNp (EG_consp (EG_sh (d := (dL (dT true dI))) (v := p0) rfl) EG_nil) (op_lenL (dT true dI) p0)) (op_rep (l := ([(none : Option Int)] : List (Option Int))) (lsO_own (dO dI) _) rfl))))) fun x1 => (SR_setp (EX_pE (EG.cop (fun _ => ([] : List Int)) (oL (sh dI)) (EG_bLst (k := 0) EG_nil (fun _ => rfl) (fun _ => rfl) (by decide)) (fun _ => rfl))) (SR_forp (s0 := (x1, ([] : List Int))) (fun (s : ((List (Option Int)) × (List Int))) (env : En) => ∃ (j15 j16 : Option O), env = [some ((sh (dL (dT true dI))) p0), some ((sh (dT true dI)) p1), some ((oL (sh (dO dI))) s.1), some ((oL (sh dI)) s.2), j15, j16, none]) (EG_jTup (EG_sh (d := (dT true dI)) (v := p1) rfl)) ⟨_, _, rfl⟩ (fun a17 s18 e34 he => by obtain ⟨j19, j20, rfl⟩ := he; exact ⟨_, rfl, (SR_set (EX_pE (EG.frz (r := R.stk) (EG_lcm (EG_jTup (EG_b2 (EG.bindp (EG_sh (d := (dL (dT true dI))) (v := p0) rfl) (EG.bindp (EG_sh (d := dI) (v := a17) rfl) (op_at (itD_lst (dT true dI) _)))))) fun a21 => ⟨_, rfl, (EG_bT (EG_b2 (EG.bindp (EG_sh (d := dI) (v := a21) rfl) (EG.bindp (EG_var (e := (oL (sh dI))) (v := s18.2) rfl) (op_notIn (a := a21) (l := s18.2) EqD_int EqD_int ((fz_sh (d := dI)) _) (itP_lst ((fz_oL (fz_sh (d := dI))) _))))))), (EG_sh (d := dI) (v := a21) rfl)⟩) (fz_oL (fz_sh (d := dI))))) fun x23 => (SR_ifp (B := (fun (s : ((List (Option Int)) × (List Int))) (env : En) => env = [some ((sh (dL (dT true dI))) p0), some ((sh (dT true dI)) p1), some ((oL (sh (dO dI))) s.1), some ((oL (sh dI)) s.2), some ((sh dI) a17), some ((sh (dL dI)) x23), none])) (EG_bT (EG_b2 (EG.bindp (EG_sh (d := (dL dI)) (v := x23) rfl) (EG.bindp (EG.cop (fun _ => ([] : List Int)) (oL (sh dI)) (EG_bLst (k := 0) EG_nil (fun _ => rfl) (fun _ => rfl) (by decide)) (fun _ => rfl)) (op_ne (a := x23) (b := ([] : List Int)) (EqD_lst EqD_int) ((fz_sh (d := (dL dI))) _) ((fz_oL (fz_sh (d := dI))) _)))))) (SR_setIxj (j := fun x28 => a17) (x := fun x28 => (some x28)) (l := fun x28 => s18.1) (e := (sh (dO dI))) (EX_pE (EG_b2 (EG.bindp (EG_sh (d := (dL dI)) (v := x23) rfl) (EG.bindp (EG.of (e := (sh dI)) (v := (0 : Int)) rfl) (op_at (itD_lst dI _)))))) (fun _ => rfl) (fun x28 => (EG_sh (d := dI) (v := a17) rfl)) (fun _ => rfl) fun x28 l29 => (SR_expr (EX_appm (x := fun x30 => x30) (l := s18.2) (e := (sh dI)) rfl (EX_pE (EG_b2 (EG.bindp (EG_sh (d := (dL dI)) (v := x23) rfl) (EG.bindp (EG.of (e := (sh dI)) (v := (0 : Int)) rfl) (op_at (itD_lst dI _)))))) (fun _ => rfl) rfl) fun x31 => (SR_nil (s := ((l29, x31) : ((List (Option Int)) × (List Int)))) rfl))) (SR_nil (s := ((s18.1, s18.2) : ((List (Option Int)) × (List Int)))) rfl) (fun s32 e33 he => by subst he; exact (SR_nil (s := ((s32.1, s32.2) : ((List (Option Int)) × (List Int)))) ⟨_, _, rfl⟩))))⟩) (fun s35 e34 he => by obtain ⟨j36, j37, rfl⟩ := he; exact (SR_retp (w := s35.1) (EX_pE (EG_bNp (EG_consp (EG_var (e := (oL (sh (dO dI)))) (v := s35.1) rfl) EG_nil) (op_tupleO (dO dI) s35.1))) rfl)))))
noncomputable def t_all_ways : Nat → (List Int) → M (List (List Int))
  | 0, _ => .stk
  | r + 1, p0 => finT (κ := Unit) ((if (decide ((p0.length : Int) = (0 : Int))) then .rt [([] : List Int)] else (sq (forT (fun (a8 : (Int × Int)) (s9 : (List (List Int))) => (thn (R.bind (R.bind (grd (szOk ((cutG p0 (none : Option Int) (some a8.1)).length + (cutG p0 (some (a8.1 + (1 : Int))) (none : Option Int)).length)) (R.ok ((cutG p0 (none : Option Int) (some a8.1)) ++ (cutG p0 (some (a8.1 + (1 : Int))) (none : Option Int)))) R.stk) fun x12 => (t_all_ways r x12)) fun l14 => grd (szOk l14.length) (lcM (fun a13 => (R.ok true)) (fun a13 => (grd (szOk ([a8.2].length + a13.length)) (R.ok ([a8.2] ++ a13)) R.stk)) l14) R.stk) fun x15 => thn (extM s9 x15) fun l16 => (.nx l16))) (enumT p0) ([] : List (List Int))) fun s18 => (.rt s18))))
theorem ref_t_all_ways : ∀ (r : Nat) (p0 : (List Int)), RF 0 (T_all_ways r [(sh (dT false dI)) p0]) (t_all_ways r p0) (sh (dT false (dT false dI))) (fun _ => [])
  | 0, _ => trivial
  | r + 1, p0 => by
    have ih := ref_t_all_ways r
    exact RF_fn (L := fun _ _ => False) rfl (SR_ifrp (EG_bT (EG_b2 (EG.bindp (EG_bNp (EG_consp (EG_sh (d := (dT false dI)) (v := p0) rfl) EG_nil) (op_lenT false dI p0)) (EG.bindp (EG.of (e := (sh dI)) (v := (0 : Int)) rfl) (op_eq (a := (p0.length : Int)) (b := (0 : Int)) EqD_int ((fz_sh (d := dI)) _) ((fz_sh (d := dI)) _)))))) (EX_pE (EG.cop (fun _ => [([] : List Int)]) (sh (dT false (dT false dI))) (EG_bTup (k := 1) (EG_consp (EG.cop (fun _ => ([] : List Int)) (sh (dT false dI)) (EG_bTup (k := 0) EG_nil (fun _ => rfl) (fun _ => rfl) (by decide)) (fun _ => rfl)) EG_nil) (fun _ => rfl) (fun _ => rfl) (by decide)) (fun _ => rfl))) rfl (SR_setp (EX_pE (EG.cop (fun _ => ([] : List (List Int))) (oL (sh (dT false dI))) (EG_bLst (k := 0) EG_nil (fun _ => rfl) (fun _ => rfl) (by decide)) (fun _ => rfl))) (SR_forp (s0 := ([] : List (List Int))) (fun (s : (List (List Int))) (env : En) => ∃ (j6 j7 : Option O), env = [some ((sh (dT false dI)) p0), some ((oL (sh (dT false dI))) s), j6, j7, none]) (EG_jEnump (EG_jTup (EG_sh (d := (dT false dI)) (v := p0) rfl))) ⟨_, _, rfl⟩ (fun a8 s9 e17 he => by obtain ⟨j10, j11, rfl⟩ := he; exact ⟨_, rfl, (SR_ext (xs0 := _) (s := (R.bind (R.bind (grd (szOk ((cutG p0 (none : Option Int) (some a8.1)).length + (cutG p0 (some (a8.1 + (1 : Int))) (none : Option Int)).length)) (R.ok ((cutG p0 (none : Option Int) (some a8.1)) ++ (cutG p0 (some (a8.1 + (1 : Int))) (none : Option Int)))) R.stk) fun x12 => (t_all_ways r x12)) fun l14 => grd (szOk l14.length) (lcM (fun a13 => (R.ok true)) (fun a13 => (grd (szOk ([a8.2].length + a13.length)) (R.ok ([a8.2] ++ a13)) R.stk)) l14) R.stk)) (l := fun x15 => s9) (r := fun x15 => x15) (d := (dT false dI)) rfl (EX_pE (EG_lcm (EG_jTup (EG.frz (r := R.stk) (EG_call (EG_consm (γ := Unit) (u := ()) (EG.frz (r := R.stk) (EG_b2 (EG.bindp (EG_bSl (EG.bindp (EG_sh (d := (dT false dI)) (v := p0) rfl) (EG.bindp (EG.of (e := id) (v := none) rfl) (EG.bindp (EG.cop some id (EG_pI (EG_sh (d := dI) (v := a8.1) rfl)) (fun _ => rfl)) (op_slF dI p0 (none : Option Int) (some a8.1)))))) (EG.bindp (EG_bSl (EG.bindp (EG_sh (d := (dT false dI)) (v := p0) rfl) (EG.bindp (EG.cop some id (EG_pI (EG_b2 (EG.bindp (EG_sh (d := dI) (v := a8.1) rfl) (EG.bindp (EG.of (e := (sh dI)) (v := (1 : Int)) rfl) (EG.of (e := sh dI) (v := a8.1 + (1 : Int)) rfl))))) (fun _ => rfl)) (EG.bindp (EG.of (e := id) (v := none) rfl) (op_slF dI p0 (some (a8.1 + (1 : Int))) (none : Option Int)))))) (op_plusF dI (cutG p0 (none : Option Int) (some a8.1)) (cutG p0 (some (a8.1 + (1 : Int))) (none : Option Int)))))) (fz_sh (d := (dT false dI)))) EG_nil) (fun _ => rfl) (fun x12 => (ih x12))) (fz_sh (d := (dT false (dT false dI)))))) fun a13 => ⟨_, rfl, (EG.of (e := id) rfl), (EG.frz (r := R.stk) (EG_b2 (EG.bindp (EG.cop (fun _ => [a8.2]) (sh (dT false dI)) (EG_bTup (k := 1) (EG_consp (EG_sh (d := dI) (v := a8.2) rfl) EG_nil) (fun _ => rfl) (fun _ => rfl) (by decide)) (fun _ => rfl)) (EG.bindp (EG_sh (d := (dT false dI)) (v := a13) rfl) (op_plusF dI [a8.2] a13)))) (fz_sh (d := (dT false dI))))⟩)) (fun _ => lsO_own _ _) (fun _ => rfl) fun x15 l16 => (SR_nil (s := (l16 : (List (List Int)))) ⟨_, _, rfl⟩))⟩) (fun s18 e17 he => by obtain ⟨j19, j20, rfl⟩ := he; exact (SR_retp (w := s18) (EX_pE (EG_bNp (EG_consp (EG_var (e := (oL (sh (dT false dI)))) (v := s18) rfl) EG_nil) (op_tupleO (dT false dI) s18))) rfl)))))
noncomputable def t_check_list_2 (p0 : (Bool × List Int)) (p1 : Int) : M (Bool × List Int) := finT (κ := Unit) (thn (R.bind (R.bind (R.bind (grd (szOk p0.2.length) (R.ok (p0.2.map fun a1 => (a1, (1 : Int)))) R.stk) fun x2 => (R.ok (mergeG [] x2))) fun x3 => (R.ok (x3.length : Int))) fun x4 => R.ok (!decide (x4 = (p0.2.length : Int)))) fun b => if b then (sq .stk fun (z : Empty) => z.elim) else (if (p0.2.any fun a5 => true && (!(decide ((0 : Int) ≤ a5) && decide (a5 < p1)))) then (sq .stk fun (z : Empty) => z.elim) else (.rt p0)))
theorem ref_t_check_list_2 (p0 : (Bool × List Int)) (p1 : Int) : RF 0 (T_check_list [(sh (dX dI)) p0, (sh dI) p1]) (t_check_list_2 p0 p1) (sh (dX dI)) (fun _ => []) := RF_fn (L := fun _ _ => False) rfl (SR_setp (EX_pE (EG_bNp (EG_consp (EG_sh (d := (dX dI)) (v := p0) rfl) EG_nil) (op_tupleX dI p0))) (SR_ifl (EG_bT (EG_b2 (EG.bind (EG_bN (EG_consm (γ := Unit) (u := ()) (EG_bN (EG_consm (γ := Unit) (u := ()) (EG_lcy (EG_jX (EG_sh (d := (dX dI)) (v := p0) rfl)) fun a1 => ⟨_, rfl, (EG.cop (fun _ => (a1, (1 : Int))) (sh (dP2 dI dI)) (EG_bTup (k := 2) (EG_consp (EG_sh (d := dI) (v := a1) rfl) (EG_consp (EG.of (e := (sh dI)) (v := (1 : Int)) rfl) EG_nil)) (fun _ => rfl) (fun _ => rfl) (by decide)) (fun _ => rfl))⟩) EG_nil) fun x2 => (op_dict (itD_own (dP2 dI dI) _))) EG_nil) fun x3 => (op_lenKo dI x3)) fun x4 => (EG.bindp (EG_bNp (EG_consp (EG_sh (d := (dX dI)) (v := p0) rfl) EG_nil) (op_lenX dI p0)) (op_ne (a := x4) (b := (p0.2.length : Int)) EqD_int ((fz_sh (d := dI)) _) ((fz_sh (d := dI)) _)))))) SR_stk (SR_iflp (EG_bT (EG_anyp (p := fun a5 => true) (f := fun a5 => (!(decide ((0 : Int) ≤ a5) && decide (a5 < p1)))) (EG_jX (EG_sh (d := (dX dI)) (v := p0) rfl)) fun a5 => ⟨_, rfl, (EG.of (e := id) rfl), (EG_notVp (EG_chainp (a := decide ((0 : Int) ≤ a5)) (b := decide (a5 < p1)) (EG.unit (EG.of (e := (sh dI)) (v := (0 : Int)) rfl)) (EG.unit (EG_sh (d := dI) (v := a5) rfl)) (EG.unit (EG_sh (d := dI) (v := p1) rfl)) rfl rfl))⟩)) SR_stk (SR_retp (w := p0) (EX_pE (EG_sh (d := (dX dI)) (v := p0) rfl)) rfl))))
noncomputable def t_check_lists_2 (p0 : (List (Bool × List Int))) : M (List (Bool × List Int)) := finT (κ := Unit) (thn (R.ok (p0.length : Int)) fun x1 => (thn (grd (szOk p0.length) (lcM (fun a2 => (R.ok true)) (fun a2 => (t_check_list_2 a2 x1)) p0) R.stk) fun x4 => (if (x4.any fun a5 => true && (!decide ((a5.2.length : Int) = x1))) then (sq .stk fun (z : Empty) => z.elim) else (.rt x4))))
theorem ref_t_check_lists_2 (p0 : (List (Bool × List Int))) : RF 0 (T_check_lists [(sh (dL (dX dI))) p0]) (t_check_lists_2 p0) (sh (dL (dX dI))) (fun _ => []) := RF_fn (L := fun _ _ => False) rfl (SR_set (t := R.ok (p0.length : Int)) (EX_pE (EG_bNp (EG_consp (EG_sh (d := (dL (dX dI))) (v := p0) rfl) EG_nil) (op_lenL (dX dI) p0))) fun x1 => (SR_set (EX_pE (EG.frz (r := R.stk) (EG_lcmp (EG_jLst (EG_sh (d := (dL (dX dI))) (v := p0) rfl)) fun a2 => ⟨_, rfl, (EG.of (e := id) rfl), (EG.frz (r := R.stk) (EG_callp (EG_consp (EG_sh (d := (dX dI)) (v := a2) rfl) (EG_consp (EG_sh (d := dI) (v := x1) rfl) EG_nil)) rfl (ref_t_check_list_2 a2 x1)) (fz_sh (d := (dX dI))))⟩) (fz_oL (fz_sh (d := (dX dI)))))) fun x4 => (SR_iflp (EG_bT (EG_anyp (p := fun a5 => true) (f := fun a5 => (!decide ((a5.2.length : Int) = x1))) (EG_jLst (EG_sh (d := (dL (dX dI))) (v := x4) rfl)) fun a5 => ⟨_, rfl, (EG.of (e := id) rfl), (EG_b2 (EG.bindp (EG_bNp (EG_consp (EG_sh (d := (dX dI)) (v := a5) rfl) EG_nil) (op_lenX dI a5)) (EG.bindp (EG_sh (d := dI) (v := x1) rfl) (op_ne (a := (a5.2.length : Int)) (b := x1) EqD_int ((fz_sh (d := dI)) _) ((fz_sh (d := dI)) _)))))⟩)) SR_stk (SR_retp (w := x4) (EX_pE (EG_sh (d := (dL (dX dI))) (v := x4) rfl)) rfl))))
noncomputable def t_rounds_2 (p0 : (List (Bool × List Int))) : M (List (List (List Int))) := finT (κ := Unit) (thn (t_check_lists_2 p0) fun x1 => (thn (rngM (0 : Int) (x1.length : Int)) fun x2 => (sq (whT (fun (s32 : ((List Int) × (List (List (List Int))))) => (R.ok (!decide (s32.1 = ([] : List Int))))) (fun (s32 : ((List Int) × (List (List (List Int))))) => (thn (R.bind (grd (szOk s32.1.length) (lcM (fun a36 => (R.ok true)) (fun a36 => (R.bind (R.bind (R.bind (R.bind (atM x1 a36) fun x => R.ok x.2) fun l38 => grd (szOk l38.length) (lcM (fun a37 => (R.ok (memB a37 s32.1))) (fun a37 => (R.ok a37)) l38) R.stk) fun x39 => (atM x39 (0 : Int))) fun x40 => R.ok (a36, x40))) s32.1) R.stk) fun x42 => (R.ok (mergeG [] x42))) fun x43 => (thn (R.bind (grd (szOk s32.1.length) (lc0 (fun a44 => R.bind (R.bind (R.bind (t_circle_from x43 a44) fun x45 => R.bind (R.ok ()) fun v => R.ok (x45, v)) fun v48 => R.ok ((v48.1, (1 : Int)), ())) fun x50 => R.ok x50.1) s32.1) R.stk) fun x51 => R.bind (srtDT x51) fun x53 => R.ok (x53, ())) fun x54 => (thn (appM s32.2 x54.1) fun x55 => (thn (R.bind (R.ok x54.1) fun l58 => lc2M (fun a56 => (R.ok true)) (fun a56 => (R.ok a56)) (fun a56 c57 => (R.ok true)) (fun a56 c57 => (R.ok c57)) l58 []) fun x59 => (thn (grd (szOk s32.1.length) (R.ok ((s32.1.filter fun a60 => (!memB a60 x59)).map fun a60 => a60)) R.stk) fun x61 => (.nx (x61, x55)))))))) fuelW (x2, ([] : List (List (List Int))))) fun s63 => (.rt s63.2))))
theorem ref_t_rounds_2 (p0 : (List (Bool × List Int))) : RF 0 (T_rounds [(sh (dL (dX dI))) p0]) (t_rounds_2 p0) (sh (dT false (dT false (dT false dI)))) (fun _ => []) := RF_fn (L := fun _ _ => False) rfl (SR_set (EX_pE (EG.frz (r := R.stk) (EG_callp (EG_consp (EG_sh (d := (dL (dX dI))) (v := p0) rfl) EG_nil) rfl (ref_t_check_lists_2 p0)) (fz_sh (d := (dL (dX dI)))))) fun x1 => (SR_set (EX_pE (EG.frz (r := R.stk) (EG_lstR (EG_rg1 (EG_bNp (EG_consp (EG_sh (d := (dL (dX dI))) (v := x1) rfl) EG_nil) (op_lenL (dX dI) x1)))) (fz_oL (fz_sh (d := dI))))) fun x2 => (SR_setp (EX_pE (EG.cop (fun _ => ([] : List (List (List Int)))) (oL (sh (dT false (dT false dI)))) (EG_bLst (k := 0) EG_nil (fun _ => rfl) (fun _ => rfl) (by decide)) (fun _ => rfl))) (SR_whl (s0 := (x2, ([] : List (List (List Int))))) (fun (s : ((List Int) × (List (List (List Int))))) (env : En) => ∃ (j29 j30 j31 : Option O), env = [some ((sh (dL (dX dI))) p0), some ((sh (dL (dX dI))) x1), some ((sh (dL dI)) s.1), some ((oL (sh (dT false (dT false dI)))) s.2), j29, j30, j31, none, none, none]) ⟨_, _, _, rfl⟩ (fun s32 e62 he => by obtain ⟨j33, j34, j35, rfl⟩ := he; exact (EG_bT (EG_b2 (EG.bindp (EG_sh (d := (dL dI)) (v := s32.1) rfl) (EG.bindp (EG.cop (fun _ => ([] : List Int)) (oL (sh dI)) (EG_bLst (k := 0) EG_nil (fun _ => rfl) (fun _ => rfl) (by decide)) (fun _ => rfl)) (op_ne (a := s32.1) (b := ([] : List Int)) (EqD_lst EqD_int) ((fz_sh (d := (dL dI))) _) ((fz_oL (fz_sh (d := dI))) _))))))) (fun s32 e62 he => by obtain ⟨j33, j34, j35, rfl⟩ := he; exact (SR_set (EX_pE (EG.frz (r := R.stk) (EG_bN (EG_consm (γ := Unit) (u := ()) (EG_lcmp (EG_jLst (EG_sh (d := (dL dI)) (v := s32.1) rfl)) fun a36 => ⟨_, rfl, (EG.of (e := id) rfl), (EG.co (fun x40 => (a36, x40)) (sh (dP2 dI dI)) (EG_bTup (k := 2) (EG_consp (EG_sh (d := dI) (v := a36) rfl) (EG_consm (γ := Unit) (u := ()) (EG_b2 (EG.bind (EG_lcm (EG_jX (EG_b2 (EG.bindp (EG_sh (d := (dL (dX dI))) (v := x1) rfl) (EG.bindp (EG_sh (d := dI) (v := a36) rfl) (op_at (itD_lst (dX dI) _)))))) fun a37 => ⟨_, rfl, (EG_bT (EG_b2 (EG.bindp (EG_sh (d := dI) (v := a37) rfl) (EG.bindp (EG_sh (d := (dL dI)) (v := s32.1) rfl) (op_in (a := a37) (l := s32.1) EqD_int EqD_int ((fz_sh (d := dI)) _) (itP_lst ((fz_sh (d := (dL dI))) _))))))), (EG_sh (d := dI) (v := a37) rfl)⟩) fun x39 => (EG.bindp (EG.of (e := (sh dI)) (v := (0 : Int)) rfl) (op_at (itD_own dI _))))) EG_nil)) (fun _ => rfl) (fun _ => rfl) (by decide)) (fun _ => rfl))⟩) EG_nil) fun x42 => (op_dict (itD_own (dP2 dI dI) _))) (fz_oK dI))) fun x43 => (SR_set (EX.frz (d := fun (v : ((List (List Int)) × Unit)) => (dL (dT false dI)) v.1) (EX_e1 (EX.bind (EX_lc0p (e := (sh (dP2 (dT false dI) dI))) (Es := [some ((sh (dL (dX dI))) p0), some ((sh (dL (dX dI))) x1), some ((sh (dL dI)) s32.1), some ((oL (sh (dT false (dT false dI)))) s32.2), some ((sh (dK dI)) x43), j34, j35, none, none, none]) (Ef := [some ((sh (dL (dX dI))) p0), some ((sh (dL (dX dI))) x1), some ((sh (dL dI)) s32.1), some ((oL (sh (dT false (dT false dI)))) s32.2), some ((sh (dK dI)) x43), j34, j35, none, none, none]) (EG_jLst (EG_sh (d := (dL dI)) (v := s32.1) rfl)) rfl (fun a44 => ⟨_, _, rfl, (EX.co (fun x50 => x50.1) (sh (dP2 (dT false dI) dI)) (fun _ => [some ((sh (dL (dX dI))) p0), some ((sh (dL (dX dI))) x1), some ((sh (dL dI)) s32.1), some ((oL (sh (dT false (dT false dI)))) s32.2), some ((sh (dK dI)) x43), j34, j35, some ((sh dI) a44), none, none]) (EX.co (fun (v48 : ((List Int) × Unit)) => ((v48.1, (1 : Int)), ())) (fun (u49 : (((List Int) × Int) × Unit)) => (sh (dP2 (dT false dI) dI)) u49.1) (fun (u49 : (((List Int) × Int) × Unit)) => [some ((sh (dL (dX dI))) p0), some ((sh (dL (dX dI))) x1), some ((sh (dL dI)) s32.1), some ((oL (sh (dT false (dT false dI)))) s32.2), some ((sh (dK dI)) x43), j34, j35, some ((sh dI) a44), none, none]) (EX_eTup (k := 2) (d := fun (v48 : ((List Int) × Unit)) => (dP2 (dT false dI) dI) (v48.1, (1 : Int))) (EX_cons (E2 := fun (w47 : ((List Int) × Unit)) => [some ((sh (dL (dX dI))) p0), some ((sh (dL (dX dI))) x1), some ((sh (dL dI)) s32.1), some ((oL (sh (dT false (dT false dI)))) s32.2), some ((sh (dK dI)) x43), j34, j35, some ((sh dI) a44), none, none]) (EX_pE (EG.frz (r := R.stk) (EG_callp (EG_consp (EG_sh (d := (dK dI)) (v := x43) rfl) (EG_consp (EG_sh (d := dI) (v := a44) rfl) EG_nil)) rfl (ref_t_circle_from x43 a44)) (fz_sh (d := (dT false dI))))) fun x45 => (EX_consp (x := (1 : Int)) (EX_pE (EG.of (e := (sh dI)) (v := (1 : Int)) rfl)) EX_nil)) (fun _ => rfl) (by decide) (fun (v48 : ((List Int) × Unit)) => (by simp only [List.map_cons, List.map_nil]; rw [show ((sh (dT false dI)) v48.1).frz = (dT false dI) v48.1 from (fz_sh (d := (dT false dI))) _]; rw [show ((sh dI) (1 : Int)).frz = dI (1 : Int) from (fz_sh (d := dI)) _]))) (fun _ => rfl) (fun _ => rfl)) (fun _ => rfl) (fun _ => rfl)), fun _ => rfl⟩) rfl) fun x51 => (EX_fin (op_sortedDT (itD_own (dP2 (dT false dI) dI) _)) (fun x53 => (x53, ())) (fun (v52 : ((List (List Int)) × Unit)) => (oL (sh (dT false dI))) v52.1) (fun (v52 : ((List (List Int)) × Unit)) => [some ((sh (dL (dX dI))) p0), some ((sh (dL (dX dI))) x1), some ((sh (dL dI)) s32.1), some ((oL (sh (dT false (dT false dI)))) s32.2), some ((sh (dK dI)) x43), j34, j35, none, none, none]) (fun _ => rfl) (fun _ => rfl)))) (fun v => (fz_oL (fz_sh (d := (dT false dI)))) v.1)) fun x54 => (SR_expr (EX_app (x := x54.1) (l := s32.2) (e := (sh (dT false (dT false dI)))) rfl (EX_pE (EG_bNp (EG_consp (EG_sh (d := (dL (dT false dI))) (v := x54.1) rfl) EG_nil) (op_tupleL (dT false dI) x54.1))) rfl rfl) fun x55 => (SR_set (EX_pE (EG.frz (r := R.stk) (EG_lc2 (EG_jLst (EG_sh (d := (dL (dT false dI))) (v := x54.1) rfl)) fun a56 => ⟨_, rfl, (EG.of (e := id) rfl), (EG_jTup (EG_sh (d := (dT false dI)) (v := a56) rfl)), fun c57 => ⟨_, rfl, (EG.of (e := id) rfl), (EG_sh (d := dI) (v := c57) rfl)⟩⟩) (fz_oL (fz_sh (d := dI))))) fun x59 => (SR_set (EX_pE (EG.frz (r := R.stk) (EG_lcp (EG_jLst (EG_sh (d := (dL dI)) (v := s32.1) rfl)) fun a60 => ⟨_, rfl, (EG_bT (EG_b2 (EG.bindp (EG_sh (d := dI) (v := a60) rfl) (EG.bindp (EG_sh (d := (dL dI)) (v := x59) rfl) (op_notIn (a := a60) (l := x59) EqD_int EqD_int ((fz_sh (d := dI)) _) (itP_lst ((fz_sh (d := (dL dI))) _))))))), (EG_sh (d := dI) (v := a60) rfl)⟩) (fz_oL (fz_sh (d := dI))))) fun x61 => (SR_nil (s := ((x61, x55) : ((List Int) × (List (List (List Int)))))) ⟨_, _, _, rfl⟩))))))) (fun s63 e62 he => by obtain ⟨j64, j65, j66, rfl⟩ := he; exact (SR_retp (w := s63.2) (EX_pE (EG_bNp (EG_consp (EG_var (e := (oL (sh (dT false (dT false dI))))) (v := s63.2) rfl) EG_nil) (op_tupleO (dT false (dT false dI)) s63.2))) rfl))))))
noncomputable def t_trade_2 (p0 : (List (Bool × List Int))) : M (List (Option Int)) := finT (κ := Unit) (thn (R.bind (t_rounds_2 p0) fun l3 => lc2M (fun a1 => (R.ok true)) (fun a1 => (R.ok a1)) (fun a1 c2 => (R.ok true)) (fun a1 c2 => (R.ok c2)) l3 []) fun x4 => (thn (t_exchanged_by x4 (p0.length : Int)) fun x5 => .rt x5))
theorem ref_t_trade_2 (p0 : (List (Bool × List Int))) : RF 0 (T_trade [(sh (dL (dX dI))) p0]) (t_trade_2 p0) (sh (dT false (dO dI))) (fun _ => []) := RF_fn (L := fun _ _ => False) rfl (SR_set (EX_pE (EG.frz (r := R.stk) (EG_lc2 (EG_jTup (EG.frz (r := R.stk) (EG_callp (EG_consp (EG_sh (d := (dL (dX dI))) (v := p0) rfl) EG_nil) rfl (ref_t_rounds_2 p0)) (fz_sh (d := (dT false (dT false (dT false dI))))))) fun a1 => ⟨_, rfl, (EG.of (e := id) rfl), (EG_jTup (EG_sh (d := (dT false (dT false dI))) (v := a1) rfl)), fun c2 => ⟨_, rfl, (EG.of (e := id) rfl), (EG_sh (d := (dT false dI)) (v := c2) rfl)⟩⟩) (fz_oL (fz_sh (d := (dT false dI)))))) fun x4 => (SR_ret (w := fun (x5 : (List (Option Int))) => x5) (EX_pE (EG_callp (EG_consp (EG_sh (d := (dL (dT false dI))) (v := x4) rfl) (EG_consp (EG_bNp (EG_consp (EG_sh (d := (dL (dX dI))) (v := p0) rfl) EG_nil) (op_lenL (dX dI) p0)) EG_nil)) rfl (ref_t_exchanged_by x4 (p0.length : Int)))) (fun _ => rfl)))
noncomputable def t_in_turn_2 (p0 : (List (Bool × List Int))) (p1 : (List Int)) : M (List (Option Int)) := finT (κ := Unit) (thn (repM ([(none : Option Int)] : List (Option Int)) (p0.length : Int)) fun x1 => (sq (forT (fun (a17 : Int) (s18 : ((List (Option Int)) × (List Int))) => (thn (R.bind (R.bind (atM p0 a17) fun x => R.ok x.2) fun l22 => grd (szOk l22.length) (lcM (fun a21 => (R.ok (!memB a21 s18.2))) (fun a21 => (R.ok a21)) l22) R.stk) fun x23 => (sq (if (!decide (x23 = ([] : List Int))) then (thn (atM x23 (0 : Int)) fun x28 => thn (setM s18.1 a17 (some x28)) fun l29 => (thn (R.bind (atM x23 (0 : Int)) fun x30 => appM s18.2 x30) fun x31 => (.nx (l29, x31)))) else (.nx (s18.1, s18.2))) fun s32 => (.nx (s32.1, s32.2))))) p1 (x1, ([] : List Int))) fun s35 => (.rt s35.1)))
theorem ref_t_in_turn_2 (p0 : (List (Bool × List Int))) (p1 : (List Int)) : RF 0 (T_in_turn [(sh (dL (dX dI))) p0, (sh (dT true dI)) p1]) (t_in_turn_2 p0 p1) (sh (dT false (dO dI))) (fun _ => []) := RF_fn (L := fun _ _ => False) rfl (SR_set (EX_pE (EG_b2 (EG.bindp (EG.cop (fun _ => ([(none : Option Int)] : List (Option Int))) (oL (sh (dO dI))) (EG_bLst (k := 1) (EG_consp (EG.cop (fun _ => (none : Option Int)) (sh (dO dI)) (EG.of (e := (sh dN)) (v := ()) rfl) (fun _ => rfl)) EG_nil) (fun _ => rfl) (fun _ => rfl) (by decide)) (fun _ => rfl)) (EG.bindp (EG_bNp (EG_consp (EG_sh (d := (dL (dX dI))) (v := p0) rfl) EG_nil) (op_lenL (dX dI) p0)) (op_rep (l := ([(none : Option Int)] : List (Option Int))) (lsO_own (dO dI) _) rfl))))) fun x1 => (SR_setp (EX_pE (EG.cop (fun _ => ([] : List Int)) (oL (sh dI)) (EG_bLst (k := 0) EG_nil (fun _ => rfl) (fun _ => rfl) (by decide)) (fun _ => rfl))) (SR_forp (s0 := (x1, ([] : List Int))) (fun (s : ((List (Option Int)) × (List Int))) (env : En) => ∃ (j15 j16 : Option O), env = [some ((sh (dL (dX dI))) p0), some ((sh (dT true dI)) p1), some ((oL (sh (dO dI))) s.1), some ((oL (sh dI)) s.2), j15, j16, none]) (EG_jTup (EG_sh (d := (dT true dI)) (v := p1) rfl)) ⟨_, _, rfl⟩ (fun a17 s18 e34 he => by obtain ⟨j19, j20, rfl⟩ := he; exact ⟨_, rfl, (SR_set (EX_pE (EG.frz (r := R.stk) (EG_lcm (EG_jX (EG_b2 (EG.bindp (EG_sh (d := (dL (dX dI))) (v := p0) rfl) (EG.bindp (EG_sh (d := dI) (v := a17) rfl) (op_at (itD_lst (dX dI) _)))))) fun a21 => ⟨_, rfl, (EG_bT (EG_b2 (EG.bindp (EG_sh (d := dI) (v := a21) rfl) (EG.bindp (EG_var (e := (oL (sh dI))) (v := s18.2) rfl) (op_notIn (a := a21) (l := s18.2) EqD_int EqD_int ((fz_sh (d := dI)) _) (itP_lst ((fz_oL (fz_sh (d := dI))) _))))))), (EG_sh (d := dI) (v := a21) rfl)⟩) (fz_oL (fz_sh (d := dI))))) fun x23 => (SR_ifp (B := (fun (s : ((List (Option Int)) × (List Int))) (env : En) => env = [some ((sh (dL (dX dI))) p0), some ((sh (dT true dI)) p1), some ((oL (sh (dO dI))) s.1), some ((oL (sh dI)) s.2), some ((sh dI) a17), some ((sh (dL dI)) x23), none])) (EG_bT (EG_b2 (EG.bindp (EG_sh (d := (dL dI)) (v := x23) rfl) (EG.bindp (EG.cop (fun _ => ([] : List Int)) (oL (sh dI)) (EG_bLst (k := 0) EG_nil (fun _ => rfl) (fun _ => rfl) (by decide)) (fun _ => rfl)) (op_ne (a := x23) (b := ([] : List Int)) (EqD_lst EqD_int) ((fz_sh (d := (dL dI))) _) ((fz_oL (fz_sh (d := dI))) _)))))) (SR_setIxj (j := fun x28 => a17) (x := fun x28 => (some x28)) (l := fun x28 => s18.1) (e := (sh (dO dI))) (EX_pE (EG_b2 (EG.bindp (EG_sh (d := (dL dI)) (v := x23) rfl) (EG.bindp (EG.of (e := (sh dI)) (v := (0 : Int)) rfl) (op_at (itD_lst dI _)))))) (fun _ => rfl) (fun x28 => (EG_sh (d := dI) (v := a17) rfl)) (fun _ => rfl) fun x28 l29 => (SR_expr (EX_appm (x := fun x30 => x30) (l := s18.2) (e := (sh dI)) rfl (EX_pE (EG_b2 (EG.bindp (EG_sh (d := (dL dI)) (v := x23) rfl) (EG.bindp (EG.of (e := (sh dI)) (v := (0 : Int)) rfl) (op_at (itD_lst dI _)))))) (fun _ => rfl) rfl) fun x31 => (SR_nil (s := ((l29, x31) : ((List (Option Int)) × (List Int)))) rfl))) (SR_nil (s := ((s18.1, s18.2) : ((List (Option Int)) × (List Int)))) rfl) (fun s32 e33 he => by subst he; exact (SR_nil (s := ((s32.1, s32.2) : ((List (Option Int)) × (List Int)))) ⟨_, _, rfl⟩))))⟩) (fun s35 e34 he => by obtain ⟨j36, j37, rfl⟩ := he; exact (SR_retp (w := s35.1) (EX_pE (EG_bNp (EG_consp (EG_var (e := (oL (sh (dO dI)))) (v := s35.1) rfl) EG_nil) (op_tupleO (dO dI) s35.1))) rfl)))))
noncomputable def t_law_flat (p0 : (List (List Int))) : M (List Int) := finT (κ := Unit) (sq (forT (fun (a3 : (List Int)) (s4 : (List Int)) => (thn (grd (szOk (s4.length + a3.length)) (R.ok (s4 ++ a3)) R.stk) fun x6 => (.nx x6))) p0 ([] : List Int)) fun s8 => (.rt s8))
theorem ref_t_law_flat (p0 : (List (List Int))) : RF 0 (T__law_flat [(sh (dL (dL dI))) p0]) (t_law_flat p0) (sh (dL dI)) (fun _ => []) := RF_fn (L := fun _ _ => False) rfl (SR_setp (EX_pE (EG.frz (r := R.stk) (EG.cop (fun _ => ([] : List Int)) (oL (sh dI)) (EG_bLst (k := 0) EG_nil (fun _ => rfl) (fun _ => rfl) (by decide)) (fun _ => rfl)) (fz_oL (fz_sh (d := dI))))) (SR_forp (s0 := ([] : List Int)) (fun (s : (List Int)) (env : En) => ∃ (j2 : Option O), env = [some ((sh (dL (dL dI))) p0), some ((sh (dL dI)) s), j2]) (EG_jLst (EG_sh (d := (dL (dL dI))) (v := p0) rfl)) ⟨_, rfl⟩ (fun a3 s4 e7 he => by obtain ⟨j5, rfl⟩ := he; exact ⟨_, rfl, (SR_set (EX_pE (EG.frz (r := R.stk) (EG_b2 (EG.bindp (EG_sh (d := (dL dI)) (v := s4) rfl) (EG.bindp (EG_sh (d := (dL dI)) (v := a3) rfl) (op_plusL (l := s4) (r := a3) (lsO_sh dI _) (lsO_sh dI _) rfl rfl)))) (fz_oL (fz_sh (d := dI))))) fun x6 => (SR_nil (s := (x6 : (List Int))) ⟨_, rfl⟩))⟩) (fun s8 e7 he => by obtain ⟨j9, rfl⟩ := he; exact (SR_retp (w := s8) (EX_pE (EG_sh (d := (dL dI)) (v := s8) rfl)) rfl))))
noncomputable def t_law (p0 : (List Int)) : M Bool := finT (κ := Unit) (sq (thn (t_law_rounds p0 (1 : Int)) fun x1 => forT (fun (a168 : (List Int)) (s169 : Unit) => (thn (R.bind (t_law_roll a168 (3 : Int)) fun x184 => R.ok (((2 : Int) + x184.1), x184.2)) fun x186 => (thn (R.bind (R.bind (grd (okI x186.1) (R.ok (rngT 0 x186.1)) R.stk) fun l194 => grd (szOk l194.length) (lcX (fun a187 s189 => (t_law_full s189 x186.1)) l194 x186.2) R.stk) fun x195 => R.bind ((R.bind (t_law_full x195.2 x186.1) fun x197 => R.bind (R.ok ()) fun v => R.ok (x197, v))) fun v => R.ok (x195, v)) fun x218 => (thn (R.bind (t_trade x218.1.1) fun x228 => R.bind ((R.bind (t_in_turn x218.1.1 x218.2.1.1) fun x229 => R.bind (R.ok ()) fun v => R.ok (x229, v))) fun v => R.ok (x228, v)) fun x232 => (thn (t_law_roll x218.2.1.2 x186.1) fun x234 => (thn (R.bind (rngM (0 : Int) x186.1) fun x235 => (t_all_ways 9 x235)) fun x236 => (sq (forT (fun (a252 : (List Int)) (s253 : Unit) => (thn (R.bind (grd (szOk (((fun (l : List (List Int)) => l.map (fun v => (true, v))) (cutG x218.1.1 (none : Option Int) (some x234.1))).length + ((fun (l : List (List Int)) => l.map (fun v => (false, v))) ([a252] : List (List Int))).length)) (R.ok (((fun (l : List (List Int)) => l.map (fun v => (true, v))) (cutG x218.1.1 (none : Option Int) (some x234.1))) ++ ((fun (l : List (List Int)) => l.map (fun v => (false, v))) ([a252] : List (List Int))))) R.stk) fun x257 => (grd (szOk (x257.length + ((fun (l : List (List Int)) => l.map (fun v => (true, v))) (cutG x218.1.1 (some (x234.1 + (1 : Int))) (none : Option Int))).length)) (R.ok (x257 ++ ((fun (l : List (List Int)) => l.map (fun v => (true, v))) (cutG x218.1.1 (some (x234.1 + (1 : Int))) (none : Option Int))))) R.stk)) fun x258 => (thn (R.bind (R.bind (R.bind (atM x218.1.1 x234.1) fun l => R.bind (R.bind (R.bind (t_trade_2 x258) fun x259 => (atM x259 x234.1)) getM) fun k => idxM l k) fun x260 => (R.bind (R.bind (atM x218.1.1 x234.1) fun l => R.bind (R.bind (atM x232.1 x234.1) getM) fun k => idxM l k) fun x261 => R.ok (decide (x260 < x261)))) fun b => grd b (R.ok true) (R.bind (R.bind (atM x218.1.1 x234.1) fun l => R.bind (R.bind (R.bind (t_in_turn_2 x258 x218.2.1.1) fun x262 => (atM x262 x234.1)) getM) fun k => idxM l k) fun x263 => (R.bind (R.bind (atM x218.1.1 x234.1) fun l => R.bind (R.bind (atM x232.2.1 x234.1) getM) fun k => idxM l k) fun x264 => R.ok (decide (x263 < x264))))) fun b => if b then .rt false else (thn (R.bind (atM x218.1.1 x234.1) fun l => R.bind (R.bind (atM x232.1 x234.1) getM) fun k => idxM l k) fun x265 => (thn (R.bind (R.bind (R.bind (atM x218.1.1 x234.1) fun x266 => R.ok (wholeG x266.length (none : Option Int) (some (x265 + (1 : Int))) && true, cutG x266 (none : Option Int) (some (x265 + (1 : Int))))) fun x267 => R.ok (decide (((fun v => (false, v)) (cutG a252 (none : Option Int) (some (x265 + (1 : Int))))).2 = x267.2))) fun b => grd b (R.bind (t_trade_2 x258) fun x268 => R.ok (!decide (x268 = x232.1))) (R.ok false)) fun b => if b then .rt false else (.nx ())))))) (cutG x236 (none : Option Int) (some (24 : Int))) ()) fun s270 => (sq (thn (grd (okI x186.1) (R.ok (rngT 0 x186.1)) R.stk) fun l => forT (fun (a298 : Int) (s299 : Unit) => (sq (thn (grd (okI a298) (R.ok (rngT 0 a298)) R.stk) fun l => forT (fun (a309 : Int) (s310 : Unit) => (thn (R.bind (R.bind (R.bind (atM x218.1.1 a309) fun x312 => (atM x312 (0 : Int))) fun x313 => R.ok (decide (x313 = a298))) fun b => grd b (R.bind (R.bind (R.bind (atM x218.1.1 a298) fun x314 => (atM x314 (0 : Int))) fun x315 => R.ok (decide (x315 = a309))) fun b => grd b (R.bind (R.bind (R.bind (atM x232.1 a309) fun x => R.bind ((R.bind (atM x232.1 a298) fun x => R.bind (R.ok ()) fun v => R.ok (x, v))) fun v => R.ok (x, v)) fun x316 => R.ok (x316.1, x316.2.1)) fun x317 => R.ok (!decide (x317 = ((fun v => (some (v.1), some (v.2))) (a298, a309))))) (R.ok false)) (R.ok false)) fun b => if b then .rt false else (.nx ()))) l ()) fun s319 => (thn (R.bind (R.bind (R.bind (atM x218.1.1 a298) fun x321 => (atM x321 (0 : Int))) fun x322 => R.ok (decide (x322 = a298))) fun b => grd b (R.bind (atM x232.1 a298) fun x323 => R.ok (!decide (x323 = (some a298)))) (R.ok false)) fun b => if b then .rt false else (.nx ())))) l ()) fun s325 => (thn (R.bind (R.bind (R.bind (t_rounds x218.1.1) fun x328 => (atM x328 (0 : Int))) fun x329 => R.ok (decide (x329 = ([] : List (List Int))))) fun b => grd b (R.ok true) (R.bind (R.bind (R.bind (R.bind (t_rounds x218.1.1) fun l332 => grd (szOk l332.length) (lcM (fun a330 => (R.ok true)) (fun a330 => (grd (szOk a330.length) (R.ok (a330.map fun a331 => (a331.length : Int))) R.stk)) l332) R.stk) fun x333 => (t_law_flat x333)) fun x334 => (R.ok (x334.sum))) fun x335 => R.ok (!decide (x335 = x186.1)))) fun b => if b then .rt false else (.nx ())))))))))) x1 ()) fun s337 => (.rt true))
theorem ref_t_law (p0 : (List Int)) : RF 0 (T_law [(sh (dF dI)) p0]) (t_law p0) (sh dB) (fun _ => []) := RF_fn (L := fun _ _ => False) rfl (SR_forO (t := (t_law_rounds p0 (1 : Int))) (xs := fun x1 => x1) (eo := (oL (sh dI))) (s0 := fun x1 => ()) (fun (s : Unit) (env : En) => ∃ (j155 j156 j157 j158 j159 j160 j161 j162 j163 j164 j165 j166 j167 : Option O), env = [some ((sh (dF dI)) p0), j155, j156, j157, j158, j159, j160, j161, j162, j163, j164, j165, j166, j167, none, none]) (EX_pE (EG_callp (EG_consp (EG_sh (d := (dF dI)) (v := p0) rfl) (EG_consp (EG.of (e := (sh dI)) (v := (1 : Int)) rfl) EG_nil)) rfl (ref_t_law_rounds p0 (1 : Int)))) (fun _ => rfl) (fun _ => ⟨_, _, _, _, _, _, _, _, _, _, _, _, _, rfl⟩) (fun a168 s169 e336 he => by obtain ⟨j170, j171, j172, j173, j174, j175, j176, j177, j178, j179, j180, j181, j182, rfl⟩ := he; exact (SR_set (EX.frz (d := fun (v : (Int × (List Int))) => dI v.1) (EX_op2 (EX.bindp (EX_pE (EG.of (e := (sh dI)) (v := (2 : Int)) rfl)) (EX.bind (EX_call (a := ()) (E' := fun v183 => [some ((sh (dF dI)) p0), some ((oL (sh dI)) v183.2), j171, j172, j173, j174, j175, j176, j177, j178, j179, j180, j181, j182, none, none]) (EX_lend (β := Unit) (d := (oL (sh dI)) a168) rfl (EX_consp (x := (3 : Int)) (EX_pE (EG.of (e := (sh dI)) (v := (3 : Int)) rfl)) EX_nil)) (ref_t_law_roll a168 (3 : Int)) (fun _ => rfl) (putx_one 1 _)) fun x184 => (EX_finp (EG.of (e := sh dI) (v := (2 : Int) + x184.1) rfl) (((2 : Int) + x184.1), x184.2) (fun (v185 : (Int × (List Int))) => (sh dI) v185.1) (fun (v185 : (Int × (List Int))) => [some ((sh (dF dI)) p0), some ((oL (sh dI)) v185.2), j171, j172, j173, j174, j175, j176, j177, j178, j179, j180, j181, j182, none, none]) rfl rfl)))) (fun v => (fz_sh (d := dI)) v.1)) fun x186 => (SR_par (EX_cons (E2 := fun (w208 : (((List (List Int)) × (List Int)) × (((List Int) × (List Int)) × Unit))) => [some ((sh (dF dI)) p0), some ((oL (sh dI)) w208.2.1.2), some ((sh dI) x186.1), j172, j173, j174, j175, (shOf j176), j177, j178, j179, j180, j181, j182, none, none]) (EX.frz (d := fun (v : ((List (List Int)) × (List Int))) => (dL (dT true dI)) v.1) (EX_lcm (σ := (List Int)) (β := (List Int)) (e := (sh (dT true dI))) (Es := fun s189 => [some ((sh (dF dI)) p0), some ((oL (sh dI)) s189), some ((sh dI) x186.1), j172, j173, j174, j175, none, j177, j178, j179, j180, j181, j182, none, none]) (Ef := fun s189 => [some ((sh (dF dI)) p0), some ((oL (sh dI)) s189), some ((sh dI) x186.1), j172, j173, j174, j175, (shOf j176), j177, j178, j179, j180, j181, j182, none, none]) (s0 := x186.2) (EG_jR1p (EG_sh (d := dI) (v := x186.1) rfl)) rfl (fun a187 s189 => ⟨_, _, rfl, (EX.frz (d := fun (v : ((List Int) × (List Int))) => (dT true dI) v.1) (EX_call (a := ()) (E' := fun v190 => [some ((sh (dF dI)) p0), some ((oL (sh dI)) v190.2), some ((sh dI) x186.1), j172, j173, j174, j175, some ((sh dI) a187), j177, j178, j179, j180, j181, j182, none, none]) (EX_lend (β := Unit) (d := (oL (sh dI)) s189) rfl (EX_consp (x := x186.1) (EX_pE (EG_sh (d := dI) (v := x186.1) rfl)) EX_nil)) (ref_t_law_full s189 x186.1) (fun _ => rfl) (putx_one 1 _)) (fun v => (fz_sh (d := (dT true dI))) v.1)), fun _ => rfl⟩) (fun s189 => rfl)) (fun v => (fz_oL (fz_sh (d := (dT true dI)))) v.1)) fun x195 => (EX_cons (E2 := fun (w198 : (((List Int) × (List Int)) × Unit)) => [some ((sh (dF dI)) p0), some ((oL (sh dI)) w198.1.2), some ((sh dI) x186.1), j172, j173, j174, j175, (shOf j176), j177, j178, j179, j180, j181, j182, none, none]) (EX.frz (d := fun (v : ((List Int) × (List Int))) => (dT true dI) v.1) (EX_call (a := ()) (E' := fun v196 => [some ((sh (dF dI)) p0), some ((oL (sh dI)) v196.2), some ((sh dI) x186.1), j172, j173, j174, j175, (shOf j176), j177, j178, j179, j180, j181, j182, none, none]) (EX_lend (β := Unit) (d := (oL (sh dI)) x195.2) rfl (EX_consp (x := x186.1) (EX_pE (EG_sh (d := dI) (v := x186.1) rfl)) EX_nil)) (ref_t_law_full x195.2 x186.1) (fun _ => rfl) (putx_one 1 _)) (fun v => (fz_sh (d := (dT true dI))) v.1)) fun x197 => EX_nil)) (fun _ => rfl) fun x218 => (SR_par (EX_cons (E2 := fun (w231 : ((List (Option Int)) × ((List (Option Int)) × Unit))) => [some ((sh (dF dI)) p0), some ((oL (sh dI)) x218.2.1.2), some ((sh dI) x186.1), some ((sh (dL (dT true dI))) x218.1.1), some ((sh (dT true dI)) x218.2.1.1), j174, j175, (shOf j176), j177, j178, j179, j180, j181, j182, none, none]) (EX_pE (EG.frz (r := R.stk) (EG_callp (EG_consp (EG_sh (d := (dL (dT true dI))) (v := x218.1.1) rfl) EG_nil) rfl (ref_t_trade x218.1.1)) (fz_sh (d := (dT false (dO dI)))))) fun x228 => (EX_cons (E2 := fun (w230 : ((List (Option Int)) × Unit)) => [some ((sh (dF dI)) p0), some ((oL (sh dI)) x218.2.1.2), some ((sh dI) x186.1), some ((sh (dL (dT true dI))) x218.1.1), some ((sh (dT true dI)) x218.2.1.1), j174, j175, (shOf j176), j177, j178, j179, j180, j181, j182, none, none]) (EX_pE (EG.frz (r := R.stk) (EG_callp (EG_consp (EG_sh (d := (dL (dT true dI))) (v := x218.1.1) rfl) (EG_consp (EG_sh (d := (dT true dI)) (v := x218.2.1.1) rfl) EG_nil)) rfl (ref_t_in_turn x218.1.1 x218.2.1.1)) (fz_sh (d := (dT false (dO dI)))))) fun x229 => EX_nil)) (fun _ => rfl) fun x232 => (SR_set (EX.frz (d := fun (v : (Int × (List Int))) => dI v.1) (EX_call (a := ()) (E' := fun v233 => [some ((sh (dF dI)) p0), some ((oL (sh dI)) v233.2), some ((sh dI) x186.1), some ((sh (dL (dT true dI))) x218.1.1), some ((sh (dT true dI)) x218.2.1.1), some ((sh (dT false (dO dI))) x232.1), some ((sh (dT false (dO dI))) x232.2.1), (shOf j176), j177, j178, j179, j180, j181, j182, none, none]) (EX_lend (β := Unit) (d := (oL (sh dI)) x218.2.1.2) rfl (EX_consp (x := x186.1) (EX_pE (EG_sh (d := dI) (v := x186.1) rfl)) EX_nil)) (ref_t_law_roll x218.2.1.2 x186.1) (fun _ => rfl) (putx_one 1 _)) (fun v => (fz_sh (d := dI)) v.1)) fun x234 => (SR_set (EX_pE (EG.frz (r := R.stk) (EG_call (EG_consm (γ := Unit) (u := ()) (EG_tupR (EG_rg1 (EG_sh (d := dI) (v := x186.1) rfl))) EG_nil) (fun _ => rfl) (fun x235 => (ref_t_all_ways 9 x235))) (fz_sh (d := (dT false (dT false dI)))))) fun x236 => (SR_forp (s0 := ()) (fun (s : Unit) (env : En) => ∃ (j249 j250 j251 : Option O), env = [some ((sh (dF dI)) p0), some ((oL (sh dI)) x234.2), some ((sh dI) x186.1), some ((sh (dL (dT true dI))) x218.1.1), some ((sh (dT true dI)) x218.2.1.1), some ((sh (dT false (dO dI))) x232.1), some ((sh (dT false (dO dI))) x232.2.1), some ((sh dI) x234.1), some ((sh (dT false (dT false dI))) x236), j249, j250, j251, j181, j182, none, none]) (EG_jTup (EG.frz (r := R.stk) (EG_bSl (EG.bindp (EG_sh (d := (dT false (dT false dI))) (v := x236) rfl) (EG.bindp (EG.of (e := id) (v := none) rfl) (EG.bindp (EG.cop some id (EG_pI (EG.of (e := (sh dI)) (v := (24 : Int)) rfl)) (fun _ => rfl)) (op_slF (dT false dI) x236 (none : Option Int) (some (24 : Int))))))) (fz_sh (d := (dT false (dT false dI)))))) ⟨_, _, _, rfl⟩ (fun a252 s253 e269 he => by obtain ⟨j254, j255, j256, rfl⟩ := he; exact ⟨_, rfl, (SR_set (EX_pE (EG.frz (r := R.stk) (EG_b2 (EG.bind (EG_b2 (EG.bindp (EG.cop (fun (l : List (List Int)) => l.map (fun v => (true, v))) (oL (sh (dX dI))) (EG_bSl (EG.bindp (EG_sh (d := (dL (dT true dI))) (v := x218.1.1) rfl) (EG.bindp (EG.of (e := id) (v := none) rfl) (EG.bindp (EG.cop some id (EG_pI (EG_sh (d := dI) (v := x234.1) rfl)) (fun _ => rfl)) (op_slLst (dT true dI) x218.1.1 (none : Option Int) (some x234.1)))))) (co_oL (e := (sh (dT true dI))) (e' := (sh (dX dI))) (c := (fun v => (true, v))) (fun _ => rfl))) (EG.bindp (EG.cop (fun (l : List (List Int)) => l.map (fun v => (false, v))) (oL (sh (dX dI))) (EG.cop (fun _ => ([a252] : List (List Int))) (oL (sh (dT false dI))) (EG_bLst (k := 1) (EG_consp (EG_sh (d := (dT false dI)) (v := a252) rfl) EG_nil) (fun _ => rfl) (fun _ => rfl) (by decide)) (fun _ => rfl)) (co_oL (e := (sh (dT false dI))) (e' := (sh (dX dI))) (c := (fun v => (false, v))) (fun _ => rfl))) (op_plusL (l := ((fun (l : List (List Int)) => l.map (fun v => (true, v))) (cutG x218.1.1 (none : Option Int) (some x234.1)))) (r := ((fun (l : List (List Int)) => l.map (fun v => (false, v))) ([a252] : List (List Int)))) (lsO_own (dX dI) _) (lsO_own (dX dI) _) rfl rfl)))) fun x257 => (EG.bindp (EG.cop (fun (l : List (List Int)) => l.map (fun v => (true, v))) (oL (sh (dX dI))) (EG_bSl (EG.bindp (EG_sh (d := (dL (dT true dI))) (v := x218.1.1) rfl) (EG.bindp (EG.cop some id (EG_pI (EG_b2 (EG.bindp (EG_sh (d := dI) (v := x234.1) rfl) (EG.bindp (EG.of (e := (sh dI)) (v := (1 : Int)) rfl) (EG.of (e := sh dI) (v := x234.1 + (1 : Int)) rfl))))) (fun _ => rfl)) (EG.bindp (EG.of (e := id) (v := none) rfl) (op_slLst (dT true dI) x218.1.1 (some (x234.1 + (1 : Int))) (none : Option Int)))))) (co_oL (e := (sh (dT true dI))) (e' := (sh (dX dI))) (c := (fun v => (true, v))) (fun _ => rfl))) (op_plusL (l := x257) (r := ((fun (l : List (List Int)) => l.map (fun v => (true, v))) (cutG x218.1.1 (some (x234.1 + (1 : Int))) (none : Option Int)))) (lsO_own (dX dI) _) (lsO_own (dX dI) _) rfl rfl)))) (fz_oL (fz_sh (d := (dX dI)))))) fun x258 => (SR_ifr (EG_or (EG_bT (EG_b2 (EG.bind (EG_idxT EqD_int (EG_b2 (EG.bindp (EG_sh (d := (dL (dT true dI))) (v := x218.1.1) rfl) (EG.bindp (EG_sh (d := dI) (v := x234.1) rfl) (op_at (itD_lst (dT true dI) _))))) (EG_getm (EG_b2 (EG.bind (EG_callp (EG_consp (EG_sh (d := (dL (dX dI))) (v := x258) rfl) EG_nil) rfl (ref_t_trade_2 x258)) fun x259 => (EG.bindp (EG_sh (d := dI) (v := x234.1) rfl) (op_at (itD_tup false (dO dI) _))))))) fun x260 => (EG.bind (EG_idxT EqD_int (EG_b2 (EG.bindp (EG_sh (d := (dL (dT true dI))) (v := x218.1.1) rfl) (EG.bindp (EG_sh (d := dI) (v := x234.1) rfl) (op_at (itD_lst (dT true dI) _))))) (EG_getm (EG_b2 (EG.bindp (EG_sh (d := (dT false (dO dI))) (v := x232.1) rfl) (EG.bindp (EG_sh (d := dI) (v := x234.1) rfl) (op_at (itD_tup false (dO dI) _))))))) fun x261 => (op_oLt x260 x261))))) (EG_bT (EG_b2 (EG.bind (EG_idxT EqD_int (EG_b2 (EG.bindp (EG_sh (d := (dL (dT true dI))) (v := x218.1.1) rfl) (EG.bindp (EG_sh (d := dI) (v := x234.1) rfl) (op_at (itD_lst (dT true dI) _))))) (EG_getm (EG_b2 (EG.bind (EG_callp (EG_consp (EG_sh (d := (dL (dX dI))) (v := x258) rfl) (EG_consp (EG_sh (d := (dT true dI)) (v := x218.2.1.1) rfl) EG_nil)) rfl (ref_t_in_turn_2 x258 x218.2.1.1)) fun x262 => (EG.bindp (EG_sh (d := dI) (v := x234.1) rfl) (op_at (itD_tup false (dO dI) _))))))) fun x263 => (EG.bind (EG_idxT EqD_int (EG_b2 (EG.bindp (EG_sh (d := (dL (dT true dI))) (v := x218.1.1) rfl) (EG.bindp (EG_sh (d := dI) (v := x234.1) rfl) (op_at (itD_lst (dT true dI) _))))) (EG_getm (EG_b2 (EG.bindp (EG_sh (d := (dT false (dO dI))) (v := x232.2.1) rfl) (EG.bindp (EG_sh (d := dI) (v := x234.1) rfl) (op_at (itD_tup false (dO dI) _))))))) fun x264 => (op_oLt x263 x264)))))) (EX_pE (EG.of (e := (sh dB)) (v := false) rfl)) rfl (SR_set (EX_pE (EG_idxT EqD_int (EG_b2 (EG.bindp (EG_sh (d := (dL (dT true dI))) (v := x218.1.1) rfl) (EG.bindp (EG_sh (d := dI) (v := x234.1) rfl) (op_at (itD_lst (dT true dI) _))))) (EG_getm (EG_b2 (EG.bindp (EG_sh (d := (dT false (dO dI))) (v := x232.1) rfl) (EG.bindp (EG_sh (d := dI) (v := x234.1) rfl) (op_at (itD_tup false (dO dI) _)))))))) fun x265 => (SR_ifr (EG_and (EG_bT (EG_b2 (EG.bindp (EG.cop (fun v => (false, v)) (sh (dX dI)) (EG_bSl (EG.bindp (EG_sh (d := (dT false dI)) (v := a252) rfl) (EG.bindp (EG.of (e := id) (v := none) rfl) (EG.bindp (EG.cop some id (EG_pI (EG_b2 (EG.bindp (EG_sh (d := dI) (v := x265) rfl) (EG.bindp (EG.of (e := (sh dI)) (v := (1 : Int)) rfl) (EG.of (e := sh dI) (v := x265 + (1 : Int)) rfl))))) (fun _ => rfl)) (op_slF dI a252 (none : Option Int) (some (x265 + (1 : Int)))))))) (fun _ => rfl)) (EG.bind (EG_bSl (EG.bind (EG_b2 (EG.bindp (EG_sh (d := (dL (dT true dI))) (v := x218.1.1) rfl) (EG.bindp (EG_sh (d := dI) (v := x234.1) rfl) (op_at (itD_lst (dT true dI) _))))) fun x266 => (EG.bindp (EG.of (e := id) (v := none) rfl) (EG.bindp (EG.cop some id (EG_pI (EG_b2 (EG.bindp (EG_sh (d := dI) (v := x265) rfl) (EG.bindp (EG.of (e := (sh dI)) (v := (1 : Int)) rfl) (EG.of (e := sh dI) (v := x265 + (1 : Int)) rfl))))) (fun _ => rfl)) (op_slT true dI x266 (none : Option Int) (some (x265 + (1 : Int)))))))) fun x267 => (op_eqX (a := ((fun v => (false, v)) (cutG a252 (none : Option Int) (some (x265 + (1 : Int)))))) (b := x267) EqD_int))))) (EG_bT (EG_b2 (EG.bind (EG_callp (EG_consp (EG_sh (d := (dL (dX dI))) (v := x258) rfl) EG_nil) rfl (ref_t_trade_2 x258)) fun x268 => (EG.bindp (EG_sh (d := (dT false (dO dI))) (v := x232.1) rfl) (op_ne (a := x268) (b := x232.1) (EqD_tup (EqD_opt EqD_int nonI1 nonI2)) ((fz_sh (d := (dT false (dO dI)))) _) ((fz_sh (d := (dT false (dO dI)))) _))))))) (EX_pE (EG.of (e := (sh dB)) (v := false) rfl)) rfl (SR_nil (s := (() : Unit)) ⟨_, _, _, rfl⟩)))))⟩) (fun s270 e269 he => by obtain ⟨j271, j272, j273, rfl⟩ := he; exact (SR_for (s0 := ()) (fun (s : Unit) (env : En) => ∃ (j296 j297 : Option O), env = [some ((sh (dF dI)) p0), some ((oL (sh dI)) x234.2), some ((sh dI) x186.1), some ((sh (dL (dT true dI))) x218.1.1), some ((sh (dT true dI)) x218.2.1.1), some ((sh (dT false (dO dI))) x232.1), some ((sh (dT false (dO dI))) x232.2.1), some ((sh dI) x234.1), some ((sh (dT false (dT false dI))) x236), j271, j272, j273, j296, j297, none, none]) (EG_jR1p (EG_sh (d := dI) (v := x186.1) rfl)) ⟨_, _, rfl⟩ (fun a298 s299 e324 he => by obtain ⟨j300, j301, rfl⟩ := he; exact ⟨_, rfl, (SR_for (s0 := ()) (fun (s : Unit) (env : En) => ∃ (j308 : Option O), env = [some ((sh (dF dI)) p0), some ((oL (sh dI)) x234.2), some ((sh dI) x186.1), some ((sh (dL (dT true dI))) x218.1.1), some ((sh (dT true dI)) x218.2.1.1), some ((sh (dT false (dO dI))) x232.1), some ((sh (dT false (dO dI))) x232.2.1), some ((sh dI) x234.1), some ((sh (dT false (dT false dI))) x236), j271, j272, j273, some ((sh dI) a298), j308, none, none]) (EG_jR1p (EG_sh (d := dI) (v := a298) rfl)) ⟨_, rfl⟩ (fun a309 s310 e318 he => by obtain ⟨j311, rfl⟩ := he; exact ⟨_, rfl, (SR_ifr (EG_and (EG_bT (EG_b2 (EG.bind (EG_b2 (EG.bind (EG_b2 (EG.bindp (EG_sh (d := (dL (dT true dI))) (v := x218.1.1) rfl) (EG.bindp (EG_sh (d := dI) (v := a309) rfl) (op_at (itD_lst (dT true dI) _))))) fun x312 => (EG.bindp (EG.of (e := (sh dI)) (v := (0 : Int)) rfl) (op_at (itD_tup true dI _))))) fun x313 => (EG.bindp (EG_sh (d := dI) (v := a298) rfl) (op_eq (a := x313) (b := a298) EqD_int ((fz_sh (d := dI)) _) ((fz_sh (d := dI)) _)))))) (EG_and (EG_bT (EG_b2 (EG.bind (EG_b2 (EG.bind (EG_b2 (EG.bindp (EG_sh (d := (dL (dT true dI))) (v := x218.1.1) rfl) (EG.bindp (EG_sh (d := dI) (v := a298) rfl) (op_at (itD_lst (dT true dI) _))))) fun x314 => (EG.bindp (EG.of (e := (sh dI)) (v := (0 : Int)) rfl) (op_at (itD_tup true dI _))))) fun x315 => (EG.bindp (EG_sh (d := dI) (v := a309) rfl) (op_eq (a := x315) (b := a309) EqD_int ((fz_sh (d := dI)) _) ((fz_sh (d := dI)) _)))))) (EG_bT (EG_b2 (EG.bind (EG.co (fun x316 => (x316.1, x316.2.1)) (sh (dP2 (dO dI) (dO dI))) (EG_bTup (k := 2) (EG_cons (EG_b2 (EG.bindp (EG_sh (d := (dT false (dO dI))) (v := x232.1) rfl) (EG.bindp (EG_sh (d := dI) (v := a309) rfl) (op_at (itD_tup false (dO dI) _))))) (EG_cons (EG_b2 (EG.bindp (EG_sh (d := (dT false (dO dI))) (v := x232.1) rfl) (EG.bindp (EG_sh (d := dI) (v := a298) rfl) (op_at (itD_tup false (dO dI) _))))) EG_nil)) (fun _ => rfl) (fun _ => rfl) (by decide)) (fun _ => rfl)) fun x317 => (EG.bindp (EG.cop (fun v => (some (v.1), some (v.2))) (sh (dP2 (dO dI) (dO dI))) (EG.cop (fun _ => (a298, a309)) (sh (dP2 dI dI)) (EG_bTup (k := 2) (EG_consp (EG_sh (d := dI) (v := a298) rfl) (EG_consp (EG_sh (d := dI) (v := a309) rfl) EG_nil)) (fun _ => rfl) (fun _ => rfl) (by decide)) (fun _ => rfl)) (fun _ => rfl)) (op_ne (a := x317) (b := ((fun v => (some (v.1), some (v.2))) (a298, a309))) (EqD_p2 (EqD_opt EqD_int nonI1 nonI2) (EqD_opt EqD_int nonI1 nonI2)) ((fz_sh (d := (dP2 (dO dI) (dO dI)))) _) ((fz_sh (d := (dP2 (dO dI) (dO dI)))) _)))))))) (EX_pE (EG.of (e := (sh dB)) (v := false) rfl)) rfl (SR_nil (s := (() : Unit)) ⟨_, rfl⟩))⟩) (fun s319 e318 he => by obtain ⟨j320, rfl⟩ := he; exact (SR_ifr (EG_and (EG_bT (EG_b2 (EG.bind (EG_b2 (EG.bind (EG_b2 (EG.bindp (EG_sh (d := (dL (dT true dI))) (v := x218.1.1) rfl) (EG.bindp (EG_sh (d := dI) (v := a298) rfl) (op_at (itD_lst (dT true dI) _))))) fun x321 => (EG.bindp (EG.of (e := (sh dI)) (v := (0 : Int)) rfl) (op_at (itD_tup true dI _))))) fun x322 => (EG.bindp (EG_sh (d := dI) (v := a298) rfl) (op_eq (a := x322) (b := a298) EqD_int ((fz_sh (d := dI)) _) ((fz_sh (d := dI)) _)))))) (EG_bT (EG_b2 (EG.bind (EG_b2 (EG.bindp (EG_sh (d := (dT false (dO dI))) (v := x232.1) rfl) (EG.bindp (EG_sh (d := dI) (v := a298) rfl) (op_at (itD_tup false (dO dI) _))))) fun x323 => (EG.bindp (EG.cop some (sh (dO dI)) (EG_sh (d := dI) (v := a298) rfl) (fun _ => rfl)) (op_ne (a := x323) (b := (some a298)) (EqD_opt EqD_int nonI1 nonI2) ((fz_sh (d := (dO dI))) _) ((fz_sh (d := (dO dI))) _))))))) (EX_pE (EG.of (e := (sh dB)) (v := false) rfl)) rfl (SR_nil (s := (() : Unit)) ⟨_, _, rfl⟩))))⟩) (fun s325 e324 he => by obtain ⟨j326, j327, rfl⟩ := he; exact (SR_ifr (EG_or (EG_bT (EG_b2 (EG.bind (EG_b2 (EG.bind (EG_callp (EG_consp (EG_sh (d := (dL (dT true dI))) (v := x218.1.1) rfl) EG_nil) rfl (ref_t_rounds x218.1.1)) fun x328 => (EG.bindp (EG.of (e := (sh dI)) (v := (0 : Int)) rfl) (op_at (itD_tup false (dT false (dT false dI)) _))))) fun x329 => (EG.bindp (EG.cop (fun _ => ([] : List (List Int))) (sh (dT false (dT false dI))) (EG_bTup (k := 0) EG_nil (fun _ => rfl) (fun _ => rfl) (by decide)) (fun _ => rfl)) (op_eq (a := x329) (b := ([] : List (List Int))) (EqD_tup (EqD_tup EqD_int)) ((fz_sh (d := (dT false (dT false dI)))) _) ((fz_sh (d := (dT false (dT false dI)))) _)))))) (EG_bT (EG_b2 (EG.bind (EG_bN (EG_consm (γ := Unit) (u := ()) (EG_call (EG_consm (γ := Unit) (u := ()) (EG.frz (r := R.stk) (EG_lcm (EG_jTup (EG.frz (r := R.stk) (EG_callp (EG_consp (EG_sh (d := (dL (dT true dI))) (v := x218.1.1) rfl) EG_nil) rfl (ref_t_rounds x218.1.1)) (fz_sh (d := (dT false (dT false (dT false dI))))))) fun a330 => ⟨_, rfl, (EG.of (e := id) rfl), (EG.frz (r := R.stk) (EG_lcy (EG_jTup (EG_sh (d := (dT false (dT false dI))) (v := a330) rfl)) fun a331 => ⟨_, rfl, (EG_bNp (EG_consp (EG_sh (d := (dT false dI)) (v := a331) rfl) EG_nil) (op_lenT false dI a331))⟩) (fz_oL (fz_sh (d := dI))))⟩) (fz_oL (fz_sh (d := (dL dI))))) EG_nil) (fun _ => rfl) (fun x333 => (ref_t_law_flat x333))) EG_nil) fun x334 => (op_sum (itD_lst dI _))) fun x335 => (EG.bindp (EG_sh (d := dI) (v := x186.1) rfl) (op_ne (a := x335) (b := x186.1) EqD_int ((fz_sh (d := dI)) _) ((fz_sh (d := dI)) _))))))) (EX_pE (EG.of (e := (sh dB)) (v := false) rfl)) rfl (SR_nil (s := (() : Unit)) ⟨_, _, _, _, _, _, _, _, _, _, _, _, _, rfl⟩)))))))))))) (fun s337 e336 he => by obtain ⟨j338, j339, j340, j341, j342, j343, j344, j345, j346, j347, j348, j349, j350, rfl⟩ := he; exact (SR_retp (w := true) (EX_pE (EG.of (e := (sh dB)) (v := true) rfl)) rfl)))
end FD.K46


set_option Elab.async false
set_option linter.all false
set_option maxRecDepth 100000
namespace FD.K46
open PySem L2 FD FD.Ty
def Die (d : List Int) : Prop := ∃ a b c, d = [a, b, c]
theorem at3 (a b c : Int) : atM [a, b, c] 0 = .ok a ∧ atM [a, b, c] 1 = .ok b ∧ atM [a, b, c] 2 = .ok c := ⟨rfl, rfl, rfl⟩
theorem set3 (a b c x : Int) : setM [a, b, c] 0 x = .ok [x, b, c] ∧ setM [a, b, c] 1 x = .ok [a, x, c] ∧ setM [a, b, c] 2 x = .ok [a, b, x] := ⟨rfl, rfl, rfl⟩
theorem roll_ok {d : List Int} {m : Int} (hd : Die d) (h : 0 < m) (h2 : m ≤ 1000000000) : Ok (t_law_roll d m) fun v => (0 ≤ v.1 ∧ v.1 < m) ∧ Die v.2 := by
  obtain ⟨a, b, c, rfl⟩ := hd
  have k1 : ∀ x, modM x m = .ok (x % m) := fun x => modM_ok h
  have k2 : ∀ x, divM x m = .ok (x / m) := fun x => divM_ok h h2
  have p1 : ∀ x, 0 ≤ x % m := fun x => Int.emod_nonneg _ (by omega)
  have p2 : ∀ x, x % m < m := fun x => Int.emod_lt_of_pos _ h
  unfold t_law_roll
  by_cases hc : c = 2
  · subst hc
    exact ⟨(a % m, [a / m, b, 2]), by simp [at3, set3, k1, k2, grd], ⟨p1 a, p2 a⟩, _, _, _, rfl⟩
  · by_cases hd : c = 1 ∧ 0 < a
    · obtain ⟨rfl, ha⟩ := hd
      exact ⟨(a % m, [a / m, b, 1]), by simp [at3, set3, k1, k2, grd, ha], ⟨p1 a, p2 a⟩, _, _, _, rfl⟩
    · refine ⟨(((a * 48271 + b * 69621 + 11) % 2147483647 / 7 + (a * 48271 + b * 69621 + 11) % 2147483647) % m, [(a * 48271 + b * 69621 + 11) % 2147483647, b + 1, 0]), ?_, ⟨p1 _, p2 _⟩, _, _, _, rfl⟩
      by_cases h1 : c = 1
      · have h3 : ¬ 0 < a := fun h3 => hd ⟨h1, h3⟩
        subst h1
        simp [at3, set3, k1, k2, grd, h3]
      · simp [at3, set3, k1, k2, grd, hc, h1]
theorem dice_ok (x : Int) : Ok (t_law_dice x) Die := by
  unfold t_law_dice
  refine Ok.fin (Tr.ite (fun _ => ?_) fun _ => ?_)
  · exact ⟨_, _, _, rfl⟩
  · exact ⟨_, _, _, rfl⟩
theorem paired_all {α β : Type} {P : β → Prop} {l : List α} {r : List β} (h : Paired (fun _ b => P b) l r) : ∀ b ∈ r, P b := by
  induction h with
  | nil => intro b hb; cases hb
  | cons h1 _ ih =>
    intro b hb
    rcases List.mem_cons.mp hb with rfl | hb
    · exact h1
    · exact ih b hb
theorem rounds_ok (ns : List Int) (k : Int) (hn : ns.length ≤ 1000) : Ok (t_law_rounds ns k) fun r => ∀ d ∈ r, Die d := by
  unfold t_law_rounds
  have hc : (cutG ns none (some k)).length ≤ 1000 := by
    unfold cutG
    rw [List.length_take, List.length_drop]; omega
  refine Ok.fin (Tr.te rfl ?_)
  refine Tr.s (N' := fun (l : List Int) => l.length ≤ 1000) (Tr.ite (fun _ => ?_) fun _ => hc) fun s hs => ?_
  · exact Tr.te rfl (by show [(0 : Int)].length ≤ 1000; decide)
  · refine Tr.t (P := fun r => ∀ d ∈ r, Die d) (Ok.g (sz (by omega)) ?_) fun v hv => hv
    exact (lcM_Ok (P := fun _ d => Die d) fun a _ => dice_ok a).imp fun r h => paired_all h
def nums (n : Nat) : List Int := (List.range n).map fun (i : Nat) => (i : Int)
theorem nums_len (n : Nat) : (nums n).length = n := by unfold nums; simp
theorem draw_ok {d left : List Int} (hd : Die d) (hl : left ≠ []) (h : left.length ≤ 1000) : Ok (R.bind (t_law_roll d (left.length : Int)) fun x => R.bind (atM left x.1) fun y => R.ok (y, x.2)) fun v => v.1 ∈ left ∧ Die v.2 := by
  have hp := List.length_pos_iff.mpr hl
  refine Ok.bind (roll_ok hd (by omega) (by omega)) fun v ⟨⟨h1, h2⟩, h3⟩ => ?_
  rw [atM_int h1 h2]
  exact .ok ⟨List.getElem_mem _, h3⟩
theorem full_ok {d : List Int} (hd : Die d) {n : Nat} (hn : n ≤ 100) : Ok (t_law_full d (n : Int)) fun v => v.1.Perm (nums n) ∧ Die v.2 := by
  unfold t_law_full
  rw [rngM_nat (by omega)]
  refine Ok.finx (Tr.te rfl ?_)
  refine Tr.s (N' := fun (s : List Int × List Int × List Int) => s.2.2.Perm (nums n) ∧ Die s.1) ?_ fun s hs => hs
  refine Tr.wh (fun s => (s.2.2 ++ s.2.1).Perm (nums n) ∧ Die s.1) (fun s => s.2.1.length) (fun s ⟨h1, h2⟩ => ?_) _ _ ⟨List.Perm.refl _, hd⟩ (fuelW_gt (by show ((List.range n).map _).length < 1000; rw [List.length_map, List.length_range]; omega))
  have hl := h1.length_eq
  rw [List.length_append, nums_len] at hl
  refine .ok ⟨fun hb => ?_, fun hb => ?_⟩
  · have hne : s.2.1 ≠ [] := by simpa using hb
    refine Tr.t (draw_ok h2 hne (by omega)) fun v ⟨h3, h4⟩ => ?_
    refine Tr.te (appM_ok (by omega)) (Tr.te (remM_ok h3) ⟨⟨?_, h4⟩, ?_⟩)
    · show (s.2.2 ++ [v.1] ++ s.2.1.erase v.1).Perm (nums n)
      rw [List.append_assoc]
      exact (List.Perm.append_left _ (List.perm_cons_erase h3).symm).trans h1
    · show (s.2.1.erase v.1).length < s.2.1.length
      have := List.length_pos_iff.mpr hne
      rw [List.length_erase_of_mem h3]; omega
  · have he : s.2.1 = [] := by simpa using hb
    rw [he, List.append_nil] at h1
    exact ⟨h1, h2⟩
end FD.K46


set_option Elab.async false
set_option linter.all false
namespace FD.TT
def it (f : Int → Int) : Nat → Int → Int
  | 0, a => a
  | n + 1, a => it f n (f a)
def Per (f : Int → Int) (a : Int) : Prop := ∃ m, 0 < m ∧ it f m a = a
theorem it_add (f : Int → Int) : ∀ (m n : Nat) (a : Int), it f (m + n) a = it f n (it f m a)
  | 0, n, a => by rw [Nat.zero_add]; rfl
  | m + 1, n, a => by
    rw [Nat.succ_add]
    show it f (m + n) (f a) = it f n (it f m (f a))
    exact it_add f m n (f a)
theorem it_succ (f : Int → Int) (m : Nat) (a : Int) : it f (m + 1) a = f (it f m a) := it_add f m 1 a
theorem it_congr {f g : Int → Int} {a : Int} : ∀ {m : Nat}, (∀ j, j < m → f (it f j a) = g (it f j a)) → it f m a = it g m a
  | 0, _ => rfl
  | m + 1, h => by
    rw [it_succ, it_succ, ← it_congr fun j hj => h j (Nat.lt_succ_of_lt hj)]
    exact h m (Nat.lt_succ_self m)
theorem per_mem {f : Int → Int} {a : Int} (h : Per f a) (j : Nat) : ∃ n, it f n (it f j a) = a := by
  obtain ⟨m, hm, e⟩ := h
  have hk : ∀ k, it f (k * m) a = a := by
    intro k
    induction k with
    | zero => rw [Nat.zero_mul]; rfl
    | succ k ih => rw [Nat.succ_mul, it_add, ih, e]
  refine ⟨j * m - j, ?_⟩
  rw [← it_add]
  have : j + (j * m - j) = j * m := by
    have : j ≤ j * m := Nat.le_mul_of_pos_right j hm
    omega
  rw [this, hk]
theorem per_it {f : Int → Int} {a : Int} (h : Per f a) (j : Nat) : Per f (it f j a) := by
  obtain ⟨m, hm, e⟩ := h
  refine ⟨m, hm, ?_⟩
  rw [← it_add, Nat.add_comm, it_add, e]
structure Run (r : Int → Int → Nat) (S : Nat → Int → Prop) (f : Nat → Int → Int) : Prop where
  top : ∀ i a, S i a → S i (f i a) ∧ ∀ y, S i y → r a (f i a) ≤ r a y
  go : ∀ i a, S (i + 1) a ↔ S i a ∧ ¬ Per (f i) a
section
variable {r r' : Int → Int → Nat} {S S' : Nat → Int → Prop} {f f' : Nat → Int → Int} {k : Int}
theorem Run.sub (R : Run r S f) {a : Int} {i : Nat} : ∀ {j : Nat}, i ≤ j → S j a → S i a := by
  intro j
  induction j with
  | zero => intro h s; rw [Nat.le_zero.mp h]; exact s
  | succ j ih =>
    intro h s
    rcases Nat.lt_or_eq_of_le h with h | h
    · exact ih (Nat.le_of_lt_succ h) ((R.go j a).mp s).1
    · rw [h]; exact s
theorem Run.stay (R : Run r S f) {a : Int} {i : Nat} (s : S i a) : ∀ j, S i (it (f i) j a)
  | 0 => s
  | j + 1 => by rw [it_succ]; exact (R.top i _ (R.stay s j)).1
theorem per_same {f g : Int → Int} {S : Int → Prop} {a k : Int} (hs : ∀ j, S (it f j a)) (he : ∀ b, S b → b ≠ k → f b = g b) (hk : ¬ Per f k) (h : Per f a) : Per g a := by
  obtain ⟨m, hm, e⟩ := h
  refine ⟨m, hm, ?_⟩
  rw [← it_congr (f := f) (g := g) (m := m) fun j _ => he _ (hs j) fun ek => hk (ek ▸ per_it ⟨m, hm, e⟩ j)]
  exact e
theorem same_till (R : Run r S f) (R' : Run r' S' f') (inj : ∀ a x y, S 0 a → S 0 x → S 0 y → r a x = r a y → x = y) (h0 : ∀ a, S 0 a ↔ S' 0 a) (hr : ∀ a, a ≠ k → r' a = r a) :
    ∀ i, (∀ j, j < i → ¬ Per (f j) k ∧ ¬ Per (f' j) k) → ∀ a, S i a ↔ S' i a := by
  intro i
  induction i with
  | zero => exact fun _ => h0
  | succ i ih =>
    intro h a
    have hS := ih fun j hj => h j (Nat.lt_succ_of_lt hj)
    obtain ⟨n1, n2⟩ := h i (Nat.lt_succ_self i)
    have he : ∀ b, S i b → b ≠ k → f i b = f' i b := fun b sb hb => by
      obtain ⟨a1, a2⟩ := R.top i b sb
      obtain ⟨b1, b2⟩ := R'.top i b ((hS b).mp sb)
      rw [hr b hb] at b2
      have c1 := a2 _ ((hS _).mpr b1)
      have c2 := b2 _ ((hS _).mp a1)
      exact inj b _ _ (R.sub (Nat.zero_le i) sb) (R.sub (Nat.zero_le i) a1) (R.sub (Nat.zero_le i) ((hS _).mpr b1)) (Nat.le_antisymm c1 c2)
    rw [R.go, R'.go, hS a]
    constructor
    · rintro ⟨s, np⟩
      refine ⟨s, fun p => np ?_⟩
      exact per_same (S := S i) (g := f i) (f := f' i) (fun j => (hS _).mpr (R'.stay s j)) (fun b sb hb => (he b sb hb).symm) n2 p
    · rintro ⟨s, np⟩
      refine ⟨s, fun p => np ?_⟩
      exact per_same (S := S i) (fun j => R.stay ((hS a).mpr s) j) he n1 p
theorem chain_stays (R : Run r S f) (inj : ∀ a x y, S 0 a → S 0 x → S 0 y → r a x = r a y → x = y) {i : Nat} {x : Int} {n : Nat} (sx : S i x) (hn : it (f i) n x = k) : ∀ {t : Nat}, i ≤ t → (∀ j, i ≤ j → j < t → ¬ Per (f j) k) → S t x ∧ ∀ m, m ≤ n → (∀ l, l < m → it (f i) l x ≠ k) → it (f t) m x = it (f i) m x := by
  intro t
  induction t with
  | zero =>
    intro h _
    obtain rfl := Nat.le_zero.mp h
    exact ⟨sx, fun m _ _ => rfl⟩
  | succ t ih =>
    intro h hp
    rcases Nat.lt_or_eq_of_le h with h | h
    · have hit := Nat.le_of_lt_succ h
      obtain ⟨s, e⟩ := ih hit fun j h1 h2 => hp j h1 (Nat.lt_succ_of_lt h2)
      have hnp := hp t hit (Nat.lt_succ_self t)
      -- the first time that the way comes to k
      have fst : ∃ n0, n0 ≤ n ∧ it (f i) n0 x = k ∧ ∀ l, l < n0 → it (f i) l x ≠ k := by
        have : ∀ n, it (f i) n x = k → ∃ n0, n0 ≤ n ∧ it (f i) n0 x = k ∧ ∀ l, l < n0 → it (f i) l x ≠ k := by
          intro n
          induction n using Nat.strongRecOn with
          | ind n ihn =>
            intro hn
            by_cases hx : ∃ l, l < n ∧ it (f i) l x = k
            · obtain ⟨l, hl, el⟩ := hx
              obtain ⟨n0, h1, h2⟩ := ihn l hl el
              exact ⟨n0, Nat.le_trans h1 (Nat.le_of_lt hl), h2⟩
            · exact ⟨n, Nat.le_refl _, hn, fun l hl el => hx ⟨l, hl, el⟩⟩
        exact this n hn
      obtain ⟨n0, hn0, ek, hmin⟩ := fst
      have npl : ∀ l, l ≤ n0 → S (t + 1) (it (f i) l x) := fun l hl => by
        have el := e l (Nat.le_trans hl hn0) fun q hq => hmin q (Nat.lt_of_lt_of_le hq hl)
        rw [R.go]
        refine ⟨by rw [← el]; exact R.stay s l, fun p => hnp ?_⟩
        have e0 := e n0 hn0 hmin
        have : it (f t) (n0 - l) (it (f i) l x) = k := by
          rw [← el, ← it_add, show l + (n0 - l) = n0 by omega, e0, ek]
        rw [← this]
        exact per_it p _
      refine ⟨npl 0 (Nat.zero_le _), fun m hm hlt => ?_⟩
      have hm0 : m ≤ n0 := by
        refine Nat.le_of_not_lt fun hc => hlt n0 hc ek
      clear hm
      induction m with
      | zero => rfl
      | succ m ihm =>
        have em := ihm (fun l hl => hlt l (Nat.lt_succ_of_lt hl)) (Nat.le_of_succ_le hm0)
        rw [it_succ, it_succ, em]
        have hb : S (t + 1) (it (f i) m x) := npl m (Nat.le_of_succ_le hm0)
        have hc : S (t + 1) (it (f i) (m + 1) x) := npl (m + 1) hm0
        rw [it_succ] at hc
        obtain ⟨a1, a2⟩ := R.top (t + 1) _ hb
        have hi : i ≤ t + 1 := Nat.le_succ_of_le hit
        obtain ⟨b1, b2⟩ := R.top i _ (R.sub hi hb)
        exact inj _ _ _ (R.sub (Nat.zero_le _) hb) (R.sub (Nat.zero_le _) a1) (R.sub (Nat.zero_le _) hc) (Nat.le_antisymm (a2 _ hc) (b2 _ (R.sub hi a1)))
    · subst h
      exact ⟨sx, fun m _ _ => rfl⟩
theorem no_lie (R : Run r S f) (R' : Run r' S' f') (inj : ∀ a x y, S 0 a → S 0 x → S 0 y → r a x = r a y → x = y) (h0 : ∀ a, S 0 a ↔ S' 0 a) (hr : ∀ a, a ≠ k → r' a = r a) {t t' : Nat} (s : S t k) (p : Per (f t) k) (s' : S' t' k) (p' : Per (f' t') k) :
    r k (f t k) ≤ r k (f' t' k) := by
  have before : ∀ j, j < t → ¬ Per (f j) k := fun j hj q => ((R.go j k).mp (R.sub hj s)).2 q
  have before' : ∀ j, j < t' → ¬ Per (f' j) k := fun j hj q => ((R'.go j k).mp (R'.sub hj s')).2 q
  rcases Nat.le_total t t' with h | h
  · have hS := same_till (k := k) R R' inj h0 hr t fun j hj => ⟨before j hj, before' j (Nat.lt_of_lt_of_le hj h)⟩
    exact (R.top t k s).2 _ ((hS _).mpr (R'.sub h (R'.top t' k s').1))
  · have hS := same_till (k := k) R R' inj h0 hr t' fun j hj => ⟨before j (Nat.lt_of_lt_of_le hj h), before' j hj⟩
    obtain ⟨m, hm, e⟩ := p'
    -- the way from what k gets by the lie back to k
    have hx : S t' (f' t' k) := (hS _).mpr (R'.top t' k s').1
    have way : ∃ n, it (f t') n (f' t' k) = k := by
      have : ∀ n x, S t' x → it (f' t') n x = k → ∃ n0, it (f t') n0 x = k := by
        intro n
        induction n with
        | zero => intro x _ hx; exact ⟨0, hx⟩
        | succ n ih =>
          intro x sx hn
          by_cases ex : x = k
          · exact ⟨0, ex⟩
          · have he : f t' x = f' t' x := by
              obtain ⟨a1, a2⟩ := R.top t' x sx
              obtain ⟨b1, b2⟩ := R'.top t' x ((hS x).mp sx)
              rw [hr x ex] at b2
              exact inj x _ _ (R.sub (Nat.zero_le _) sx) (R.sub (Nat.zero_le _) a1) (R.sub (Nat.zero_le _) ((hS _).mpr b1)) (Nat.le_antisymm (a2 _ ((hS _).mpr b1)) (b2 _ ((hS _).mp a1)))
            obtain ⟨n0, h0⟩ := ih (f' t' x) ((hS _).mpr (R'.top t' x ((hS x).mp sx)).1) hn
            exact ⟨n0 + 1, by show it (f t') n0 (f t' x) = k; rw [he]; exact h0⟩
      obtain ⟨m', rfl⟩ : ∃ m', m = m' + 1 := ⟨m - 1, by omega⟩
      exact this m' _ hx e
    obtain ⟨n, hn⟩ := way
    exact (R.top t k s).2 _ (chain_stays R inj hx hn h fun j _ hj => before j hj).1
end
end FD.TT


set_option Elab.async false
set_option linter.all false
namespace FD.TT
section
variable {r r' : Int → Int → Nat} {S S' : Nat → Int → Prop} {f f' : Nat → Int → Int} {k : Int}
theorem per_agree {f g : Int → Int} {S : Int → Prop} {a : Int} (hs : ∀ j, S (it f j a)) (he : ∀ b, S b → f b = g b) (h : Per f a) : Per g a := by
  obtain ⟨m, hm, e⟩ := h
  refine ⟨m, hm, ?_⟩
  rw [← it_congr (f := f) (g := g) (m := m) fun j _ => he _ (hs j)]
  exact e
theorem gone_after (R : Run r S f) {t i : Nat} (p : Per (f t) k) (s : S i k) : i ≤ t :=
  Nat.le_of_not_lt fun h => ((R.go t k).mp (R.sub h s)).2 p
theorem one_round (R : Run r S f) {t i : Nat} {a : Int} (s1 : S t a) (p1 : Per (f t) a) (s2 : S i a) (p2 : Per (f i) a) : t = i :=
  Nat.le_antisymm (gone_after R p2 s1) (gone_after R p1 s2)
theorem same_run (R : Run r S f) (R' : Run r' S' f') (inj : ∀ a x y, S 0 a → S 0 x → S 0 y → r a x = r a y → x = y) (h0 : ∀ a, S 0 a ↔ S' 0 a) (hr : ∀ a, a ≠ k → r' a = r a) {t : Nat} (s : S t k) (p : Per (f t) k)
    (h1 : ∀ y, S 0 y → r k y ≤ r k (f t k) → r' k y = r k y) (h2 : ∀ y, S 0 y → r k (f t k) < r k y → r k (f t k) < r' k y) :
    ∀ i, (∀ a, S i a ↔ S' i a) ∧ ∀ b, S i b → f i b = f' i b := by
  have step : ∀ i, (∀ a, S i a ↔ S' i a) → ∀ b, S i b → f i b = f' i b := fun i hS b sb => by
    obtain ⟨a1, a2⟩ := R.top i b sb
    obtain ⟨b1, b2⟩ := R'.top i b ((hS b).mp sb)
    have sb' := (hS _).mpr b1
    have z0 := R.sub (Nat.zero_le i) sb
    have z1 := R.sub (Nat.zero_le i) a1
    have z2 := R.sub (Nat.zero_le i) sb'
    refine inj b _ _ z0 z1 z2 (Nat.le_antisymm (a2 _ sb') ?_)
    by_cases hb : b = k
    · subst hb
      have hit := gone_after R p sb
      have g := a2 _ (R.sub hit (R.top t b s).1)
      have e1 := h1 _ z1 g
      have c := b2 _ ((hS _).mp a1)
      rw [e1] at c
      by_cases hc : r b (f t b) < r b (f' i b)
      · have := h2 _ z2 hc
        omega
      · rw [h1 _ z2 (Nat.le_of_not_lt hc)] at c
        exact c
    · rw [hr b hb] at b2
      exact b2 _ ((hS _).mp a1)
  intro i
  induction i with
  | zero => exact ⟨h0, step 0 h0⟩
  | succ i ih =>
    obtain ⟨hS, hf⟩ := ih
    have hS' : ∀ a, S (i + 1) a ↔ S' (i + 1) a := fun a => by
      rw [R.go, R'.go, hS a]
      constructor
      · rintro ⟨sa, np⟩
        refine ⟨sa, fun q => np ?_⟩
        exact per_agree (S := S i) (fun j => (hS _).mpr (R'.stay sa j)) (fun b sb => (hf b sb).symm) q
      · rintro ⟨sa, np⟩
        refine ⟨sa, fun q => np ?_⟩
        exact per_agree (S := S i) (fun j => R.stay ((hS a).mpr sa) j) hf q
    exact ⟨hS', step _ hS'⟩
theorem pair_first (R : Run r S f) (inj : ∀ a x y, S 0 a → S 0 x → S 0 y → r a x = r a y → x = y) {a b : Int} (sa : S 0 a) (sb : S 0 b) (ha : ∀ y, S 0 y → r a b ≤ r a y) (hb : ∀ y, S 0 y → r b a ≤ r b y) : Per (f 0) a ∧ f 0 a = b := by
  have e1 : f 0 a = b := inj a _ _ sa (R.top 0 a sa).1 sb (Nat.le_antisymm ((R.top 0 a sa).2 b sb) (ha _ (R.top 0 a sa).1))
  have e2 : f 0 b = a := inj b _ _ sb (R.top 0 b sb).1 sa (Nat.le_antisymm ((R.top 0 b sb).2 a sa) (hb _ (R.top 0 b sb).1))
  exact ⟨⟨2, by decide, by show f 0 (f 0 a) = a; rw [e1, e2]⟩, e1⟩
theorem self_first (R : Run r S f) (inj : ∀ a x y, S 0 a → S 0 x → S 0 y → r a x = r a y → x = y) {a : Int} (sa : S 0 a) (ha : ∀ y, S 0 y → r a a ≤ r a y) : Per (f 0) a ∧ f 0 a = a := by
  have e1 : f 0 a = a := inj a _ _ sa (R.top 0 a sa).1 sa (Nat.le_antisymm ((R.top 0 a sa).2 a sa) (ha _ (R.top 0 a sa).1))
  exact ⟨⟨1, by decide, e1⟩, e1⟩
theorem nd_len : ∀ {l m : List Int}, l.Nodup → (∀ x ∈ l, x ∈ m) → l.length ≤ m.length
  | [], _, _, _ => Nat.zero_le _
  | a :: l, m, h, s => by
    rw [List.nodup_cons] at h
    have ha := s a List.mem_cons_self
    have := nd_len (m := m.erase a) h.2 fun x hx => by
      have hxa : x ≠ a := fun e => h.1 (e ▸ hx)
      exact (List.mem_erase_of_ne hxa).mpr (s x (List.mem_cons_of_mem _ hx))
    rw [List.length_erase_of_mem ha] at this
    have : 0 < m.length := List.length_pos_of_mem ha
    rw [List.length_cons]
    omega
theorem some_per (f : Int → Int) (l : List Int) (hl : ∀ a ∈ l, f a ∈ l) {a : Int} (ha : a ∈ l) : ∃ j, Per f (it f j a) := by
  have hin : ∀ j, it f j a ∈ l := by
    intro j
    induction j with
    | zero => exact ha
    | succ j ih => rw [it_succ]; exact hl _ ih
  have rep : ∃ i j, i < j ∧ it f i a = it f j a := by
    refine Classical.byContradiction fun hn => ?_
    have nd : ((List.range (l.length + 1)).map fun j => it f j a).Nodup := by
      rw [List.Nodup, List.pairwise_map]
      exact List.Pairwise.imp (fun {x y} h e => hn ⟨x, y, h, e⟩) (List.pairwise_lt_range (n := l.length + 1))
    have := nd_len nd fun x hx => by
      obtain ⟨j, _, rfl⟩ := List.mem_map.mp hx
      exact hin j
    rw [List.length_map, List.length_range] at this
    omega
  obtain ⟨i, j, hij, e⟩ := rep
  refine ⟨i, j - i, by omega, ?_⟩
  rw [← it_add, show i + (j - i) = j by omega]
  exact e.symm
end
end FD.TT


set_option Elab.async false
set_option linter.all false
namespace FD.TT
def way (f : Int → Int) (b : Int) (n : Nat) : List Int := (List.range n).map fun i => it f i b
theorem way_len (f : Int → Int) (b : Int) (n : Nat) : (way f b n).length = n := by unfold way; rw [List.length_map, List.length_range]
theorem way_mem {f : Int → Int} {b x : Int} {n : Nat} : x ∈ way f b n ↔ ∃ i, i < n ∧ it f i b = x := by
  unfold way
  rw [List.mem_map]
  constructor
  · rintro ⟨i, hi, e⟩; exact ⟨i, List.mem_range.mp hi, e⟩
  · rintro ⟨i, hi, e⟩; exact ⟨i, List.mem_range.mpr hi, e⟩
theorem way_get {f : Int → Int} {b : Int} {n i : Nat} (h : i < n) : (way f b n)[i]? = some (it f i b) := by
  unfold way
  rw [List.getElem?_map, List.getElem?_range h]; rfl
theorem way_snoc (f : Int → Int) (b : Int) (n : Nat) : way f b (n + 1) = way f b n ++ [it f n b] := by
  unfold way
  rw [List.range_succ, List.map_append]; rfl
theorem way_append (f : Int → Int) (b : Int) (m : Nat) : ∀ n, way f b (m + n) = way f b m ++ way f (it f m b) n
  | 0 => by rw [Nat.add_zero]; show _ = _ ++ []; rw [List.append_nil]
  | n + 1 => by rw [← Nat.add_assoc, way_snoc, way_append f b m n, way_snoc, List.append_assoc, it_add]
theorem way_drop {f : Int → Int} {b : Int} {n p : Nat} (h : p ≤ n) : (way f b n).drop p = way f (it f p b) (n - p) := by
  have e : way f b n = way f b p ++ way f (it f p b) (n - p) := by rw [← way_append]; congr 1; omega
  rw [e, List.drop_left' (way_len f b p)]
theorem way_take {f : Int → Int} {b : Int} {n p : Nat} (h : p ≤ n) : (way f b n).take p = way f b p := by
  have e : way f b n = way f b p ++ way f (it f p b) (n - p) := by rw [← way_append]; congr 1; omega
  rw [e, List.take_left' (way_len f b p)]
theorem way_turn {f : Int → Int} {b : Int} {n p : Nat} (h : p ≤ n) (hc : it f n b = b) : (way f b n).drop p ++ (way f b n).take p = way f (it f p b) n := by
  rw [way_drop h, way_take h]
  have e : way f (it f p b) n = way f (it f p b) (n - p) ++ way f (it f (n - p) (it f p b)) p := by rw [← way_append]; congr 1; omega
  rw [e, ← it_add, show p + (n - p) = n by omega, hc]
theorem turn_back {f : Int → Int} {b : Int} {n : Nat} (hc : it f n b = b) (p : Nat) : it f n (it f p b) = it f p b := by
  rw [← it_add, Nat.add_comm, it_add, hc]
def IsRing (f : Int → Int) (a : Int) (c : List Int) : Prop := ∃ b n, 0 < n ∧ c = way f b n ∧ it f n b = b ∧ c.Nodup ∧ (∀ x ∈ c, b ≤ x) ∧ ∃ j, it f j a = b
theorem IsRing.per {f : Int → Int} {a x : Int} {c : List Int} (h : IsRing f a c) (hx : x ∈ c) : Per f x := by
  obtain ⟨b, n, hn, rfl, hc, _⟩ := h
  obtain ⟨i, _, rfl⟩ := way_mem.mp hx
  exact per_it ⟨n, hn, hc⟩ i
theorem IsRing.all {f : Int → Int} {a x : Int} {c : List Int} (h : IsRing f a c) (hx : x ∈ c) (j : Nat) : it f j x ∈ c := by
  obtain ⟨b, n, hn, rfl, hc, _⟩ := h
  obtain ⟨i, _, rfl⟩ := way_mem.mp hx
  have hk : ∀ k, it f (k * n) b = b := by
    intro k
    induction k with
    | zero => rw [Nat.zero_mul]; rfl
    | succ k ih => rw [Nat.succ_mul, it_add, ih, hc]
  refine way_mem.mpr ⟨(i + j) % n, Nat.mod_lt _ hn, ?_⟩
  rw [← it_add]
  have e : i + j = (i + j) / n * n + (i + j) % n := by rw [Nat.mul_comm]; exact (Nat.div_add_mod _ _).symm
  conv => rhs; rw [e, it_add, hk]
theorem IsRing.self {f : Int → Int} {a : Int} {c : List Int} (h : IsRing f a c) (p : Per f a) : a ∈ c := by
  have h' := h
  obtain ⟨b, n, hn, e, hc, _, _, j, hj⟩ := h'
  obtain ⟨m, hm⟩ := per_mem p j
  rw [← hm, hj]
  exact h.all (by rw [e]; exact way_mem.mpr ⟨0, hn, rfl⟩) m
theorem IsRing.same {f : Int → Int} {a a' x : Int} {c c' : List Int} (h : IsRing f a c) (h' : IsRing f a' c') (hx : x ∈ c) (hx' : x ∈ c') : c = c' := by
  have sub : ∀ {a a' : Int} {c c' : List Int}, IsRing f a c → IsRing f a' c' → x ∈ c → x ∈ c' → ∀ y ∈ c, y ∈ c' := fun {a a' c c'} h h' hx hx' y hy => by
    have hp := h.per hx
    have : ∃ j, it f j x = y := by
      obtain ⟨b, n, hn, rfl, hc, _⟩ := h
      obtain ⟨i, hi, rfl⟩ := way_mem.mp hx
      obtain ⟨l, hl, rfl⟩ := way_mem.mp hy
      refine ⟨(n - i) + l, ?_⟩
      rw [← it_add, show i + (n - i + l) = n + l by omega, it_add, hc]
    obtain ⟨j, rfl⟩ := this
    exact h'.all hx' j
  have s1 := sub h h' hx hx'
  have s2 := sub h' h hx' hx
  obtain ⟨b, n, hn, rfl, hc, nd, hm, _⟩ := h
  obtain ⟨b', n', hn', rfl, hc', nd', hm', _⟩ := h'
  have eb : b = b' := Int.le_antisymm (hm _ (s2 _ (way_mem.mpr ⟨0, hn', rfl⟩))) (hm' _ (s1 _ (way_mem.mpr ⟨0, hn, rfl⟩)))
  have l1 := nd_len nd s1
  have l2 := nd_len nd' s2
  rw [way_len, way_len] at l1 l2
  rw [eb, Nat.le_antisymm l1 l2]
end FD.TT


set_option Elab.async false
set_option linter.all false
set_option maxRecDepth 100000
namespace FD.K46
open PySem L2 FD FD.Ty FD.TT
theorem idx_mem {l : List Int} {x : Int} (h : x ∈ l) : idxM l x = .ok (l.idxOf x : Int) := by
  have : ∀ {l : List Int}, x ∈ l → l.findIdx? (fun z => decide (z = x)) = some (l.idxOf x) := by
    intro l
    induction l with
    | nil => intro h; cases h
    | cons y l ih =>
      intro h
      rw [List.findIdx?_cons]
      by_cases e : y = x
      · subst e
        rw [decide_eq_true rfl, if_pos rfl, List.idxOf_cons_self]
      · have e2 : (y :: l).idxOf x = l.idxOf x + 1 := by
          rw [List.idxOf_cons, show (y == x) = false from beq_eq_false_iff_ne.mpr e]; rfl
        rw [decide_eq_false e, if_neg Bool.false_ne_true, ih ((List.mem_cons.mp h).resolve_left (Ne.symm e)), e2]; rfl
  exact idxM_of (this h)
theorem min_ok {l : List Int} (h : l ≠ []) : ∃ m, minM l = .ok m ∧ m ∈ l ∧ ∀ b ∈ l, m ≤ b := by
  unfold minM
  cases e : minI l with
  | none =>
    cases l with
    | nil => exact absurd rfl h
    | cons a l => unfold minI at e; cases e
  | some m => exact ⟨m, rfl, minI_some e⟩
theorem idx_get {l : List Int} {x : Int} (h : x ∈ l) : l[l.idxOf x]? = some x := by
  have hl := List.idxOf_lt_length_of_mem h
  rw [List.getElem?_eq_getElem hl, List.getElem_idxOf hl]
theorem circle_ok {p : List (Int × Int)} {S : List Int} {f : Int → Int} (hl : S.length ≤ 100) (hf : ∀ a ∈ S, lookM p a = .ok (f a) ∧ f a ∈ S) {a : Int} (ha : a ∈ S) :
    Ok (t_circle_from p a) fun c => IsRing f a c ∧ ∀ x ∈ c, x ∈ S := by
  have hin : ∀ j, it f j a ∈ S := by
    intro j
    induction j with
    | zero => exact ha
    | succ j ih => rw [it_succ]; exact (hf _ ih).2
  have hws : ∀ n x, x ∈ way f a n → x ∈ S := fun n x hx => by
    obtain ⟨i, _, rfl⟩ := way_mem.mp hx
    exact hin i
  unfold t_circle_from
  refine Ok.fin (Tr.s (N' := fun (s : List Int × Int) => ∃ m, s = (way f a m, it f m a) ∧ (way f a m).Nodup ∧ it f m a ∈ way f a m) ?_ fun s hs => ?_)
  · refine Tr.wh (fun s => ∃ m, s = (way f a m, it f m a) ∧ (way f a m).Nodup) (fun s => 500 - s.1.length) (fun s ⟨m, es, nd⟩ => ?_) _ _ ⟨0, rfl, List.nodup_nil⟩ (fuelW_gt (by show 500 - 0 < 1000; decide))
    subst es
    have hm := nd_len nd (hws m)
    rw [way_len] at hm
    refine .ok ⟨fun hb => ?_, fun hb => ?_⟩
    · have hn : it f m a ∉ way f a m := by simpa using hb
      refine Tr.te (appM_ok (by show (way f a m).length ≤ _; rw [way_len]; omega)) (Tr.te (hf _ (hin m)).1 ⟨⟨m + 1, ?_, ?_⟩, ?_⟩)
      · rw [way_snoc, it_succ]
      · rw [way_snoc, List.nodup_append]
        refine ⟨nd, List.pairwise_singleton _ _, fun x hx y hy e => ?_⟩
        rw [List.mem_singleton.mp hy] at e
        exact hn (e ▸ hx)
      · show 500 - (way f a m ++ [it f m a]).length < 500 - (way f a m).length
        rw [List.length_append, way_len]
        show 500 - (m + 1) < 500 - m
        omega
    · exact ⟨m, rfl, nd, by simpa using hb⟩
  · obtain ⟨m, rfl, nd, hmem⟩ := hs
    have hm := nd_len nd (hws m)
    rw [way_len] at hm
    -- where the way comes back to
    have hj := List.idxOf_lt_length_of_mem hmem
    rw [way_len] at hj
    have eb : it f ((way f a m).idxOf (it f m a)) a = it f m a := by
      have h1 := idx_get hmem
      rw [way_get hj] at h1
      exact Option.some.inj h1
    generalize hjj : (way f a m).idxOf (it f m a) = j at hj eb
    have hcy : it f (m - j) (it f j a) = it f j a := by rw [← it_add, show j + (m - j) = m by omega, eb]
    have e11 : (way f a m).drop j = way f (it f j a) (m - j) := way_drop (Nat.le_of_lt hj)
    have nd2 : (way f (it f j a) (m - j)).Nodup := by rw [← e11]; exact nd.sublist (List.drop_sublist _ _)
    have hne : way f (it f j a) (m - j) ≠ [] := fun e => by
      have := congrArg List.length e
      rw [way_len] at this
      have : m - j = 0 := this
      omega
    refine Tr.te (v := way f (it f j a) (m - j)) ?_ ?_
    · show R.bind ((idxM (way f a m) (it f m a)).bind fun v => R.ok (some v)) (fun x10 => R.ok (cutG (way f a m) x10 none)) = _
      rw [idx_mem hmem, hjj]
      show R.ok (cutG (way f a m) (some (j : Int)) none) = _
      rw [cutG_from, e11]
    · obtain ⟨mn, em, hmn, hle⟩ := min_ok hne
      have hp := List.idxOf_lt_length_of_mem hmn
      rw [way_len] at hp
      have ep : it f ((way f (it f j a) (m - j)).idxOf mn) (it f j a) = mn := by
        have h1 := idx_get hmn
        rw [way_get hp] at h1
        exact Option.some.inj h1
      generalize hpp : (way f (it f j a) (m - j)).idxOf mn = q at hp ep
      refine Tr.te (v := (q : Int)) ?_ ?_
      · show R.bind (minM (way f (it f j a) (m - j))) (fun k => idxM _ k) = _
        rw [em]
        show idxM _ mn = _
        rw [idx_mem hmn, hpp]
      · refine Tr.te (v := way f (it f q (it f j a)) (m - j)) ?_ ⟨⟨it f q (it f j a), m - j, by omega, rfl, turn_back hcy q, ?_, fun x hx => ?_, j + q, it_add _ _ _ _⟩, fun x hx => ?_⟩
        · rw [cutG_from, cutG_none]
          have hlen : ((way f (it f j a) (m - j)).drop q).length + ((way f (it f j a) (m - j)).take q).length ≤ 1000000 := by
            rw [List.length_drop, List.length_take, way_len]; omega
          rw [sz hlen]
          show R.bind (R.ok ((way f (it f j a) (m - j)).drop q ++ (way f (it f j a) (m - j)).take q)) _ = _
          rw [way_turn (Nat.le_of_lt hp) hcy]
          rfl
        · rw [← way_turn (Nat.le_of_lt hp) hcy]
          exact (List.perm_append_comm.trans (by rw [List.take_append_drop])).nodup_iff.mpr nd2
        · rw [ep]
          rw [← way_turn (Nat.le_of_lt hp) hcy] at hx
          refine hle x ?_
          rcases List.mem_append.mp hx with hx | hx
          · exact List.mem_of_mem_drop hx
          · exact List.mem_of_mem_take hx
        · obtain ⟨i, _, rfl⟩ := way_mem.mp hx
          rw [← it_add, ← it_add]
          exact hin _
end FD.K46


set_option linter.all false
set_option maxRecDepth 100000
namespace FD.DA
theorem nd_filter {α : Type} {l : List α} (p : α → Bool) (h : l.Nodup) : (l.filter p).Nodup := List.Sublist.nodup List.filter_sublist h
theorem nd_take {α : Type} {l : List α} (n : Nat) (h : l.Nodup) : (l.take n).Nodup := List.Sublist.nodup (List.take_sublist _ _) h
theorem len_eq {α : Type} {l r : List α} (h1 : l.Nodup) (h2 : r.Nodup) (h : ∀ a, a ∈ l ↔ a ∈ r) : l.length = r.length := ((List.perm_ext_iff_of_nodup h1 h2).mpr h).length_eq
def top (l : List Int) (p : Int → Bool) (s : Nat) : List Int := (l.filter p).take s
theorem top_mem {l : List Int} {p : Int → Bool} {s : Nat} {a : Int} (h : a ∈ top l p s) : a ∈ l ∧ p a = true := by
  have := List.mem_of_mem_take h
  exact List.mem_filter.mp this
theorem top_nodup {l : List Int} {p : Int → Bool} {s : Nat} (h : l.Nodup) : (top l p s).Nodup := nd_take _ (nd_filter _ h)
theorem top_zero (l : List Int) (p : Int → Bool) : top l p 0 = [] := List.take_zero
theorem top_cons_pos {x : Int} {l : List Int} {p : Int → Bool} (s : Nat) (h : p x = true) : top (x :: l) p (s + 1) = x :: top l p s := by
  unfold top; rw [List.filter_cons_of_pos h, List.take_succ_cons]
theorem top_cons_neg {x : Int} {l : List Int} {p : Int → Bool} (s : Nat) (h : p x = false) : top (x :: l) p s = top l p s := by
  unfold top; rw [List.filter_cons_of_neg (by rw [h]; exact Bool.false_ne_true)]
theorem top_succ {l : List Int} {p : Int → Bool} {s : Nat} {a : Int} (h : a ∈ top l p s) : a ∈ top l p (s + 1) := by
  unfold top at *
  exact (List.take_subset_take_left _ (Nat.le_succ s)) h
theorem top_mono {p q : Int → Bool} : ∀ {l : List Int} {s : Nat} {a : Int}, (∀ x ∈ l, p x = true → q x = true) → a ∈ top l q s → p a = true → a ∈ top l p s
  | [], s, a, _, h, _ => by have := (top_mem h).1; cases this
  | x :: l, 0, a, _, h, _ => by rw [top_zero] at h; cases h
  | x :: l, s + 1, a, hpq, h, ha => by
    have ih := fun s => top_mono (l := l) (s := s) (a := a) fun x hx => hpq x (List.mem_cons_of_mem _ hx)
    cases hq : q x with
    | false =>
      have hp : p x = false := by
        cases hp : p x with
        | false => rfl
        | true => rw [hpq x List.mem_cons_self hp] at hq; cases hq
      rw [top_cons_neg _ hq] at h
      rw [top_cons_neg _ hp]
      exact ih _ h ha
    | true =>
      rw [top_cons_pos _ hq] at h
      cases hp : p x with
      | true =>
        rw [top_cons_pos _ hp]
        rcases List.mem_cons.mp h with h | h
        · rw [h]; exact List.mem_cons_self
        · exact List.mem_cons_of_mem _ (ih _ h ha)
      | false =>
        rw [top_cons_neg _ hp]
        rcases List.mem_cons.mp h with h | h
        · rw [h, hp] at ha; cases ha
        · exact top_succ (ih _ h ha)
theorem top_congr {p q : Int → Bool} {l : List Int} {s : Nat} (h : ∀ x ∈ l, p x = q x) : top l p s = top l q s := by
  unfold top; rw [List.filter_congr h]
end FD.DA


set_option linter.all false
set_option maxRecDepth 100000
namespace FD.DA
structure Mk where
  n : Nat
  L : Int → List Int
  O : Int → List Int
  s : Int → Nat
def Mk.In (M : Mk) (a : Int) : Prop := 0 ≤ a ∧ a < M.n
structure Mk.WF (M : Mk) : Prop where
  ln : ∀ a, (M.L a).Nodup
  on : ∀ r, (M.O r).Nodup
  om : ∀ r a, a ∈ M.O r → M.In a
def ask (M : Mk) (N : Int → Nat) (r b : Int) : Bool := decide (r ∈ (M.L b).take (N b))
def ch (M : Mk) (N : Int → Nat) (r : Int) : List Int := top (M.O r) (ask M N r) (M.s r)
def Closed (M : Mk) (P : Int → Nat) : Prop := ∀ a, M.In a → ∀ r, (M.L a)[P a]? = some r → a ∈ ch M (fun b => P b + 1) r
structure Least (M : Mk) (P : Int → Nat) : Prop where
  le : ∀ a, M.In a → P a ≤ (M.L a).length
  cl : Closed M P
  ls : ∀ P', Closed M P' → ∀ a, M.In a → P a ≤ P' a
variable {M : Mk}
theorem take_mono {l : List Int} {i j : Nat} {r : Int} (h : i ≤ j) (hr : r ∈ l.take i) : r ∈ l.take j := List.take_subset_take_left _ h hr
theorem mem_take_of {l : List Int} {i j : Nat} {r : Int} (h : l[i]? = some r) (hj : i < j) : r ∈ l.take j := by
  obtain ⟨h1, h2⟩ := List.getElem?_eq_some_iff.mp h
  exact List.mem_take_iff_getElem.mpr ⟨i, by omega, h2⟩
theorem take_at {l : List Int} {j : Nat} {r : Int} (h : r ∈ l.take j) : ∃ i, i < j ∧ l[i]? = some r := by
  obtain ⟨i, h1, h2⟩ := List.mem_take_iff_getElem.mp h
  exact ⟨i, by omega, List.getElem?_eq_some_iff.mpr ⟨by omega, h2⟩⟩
theorem at_uniq {l : List Int} (hn : l.Nodup) {i j : Nat} {r : Int} (h1 : l[i]? = some r) (h2 : l[j]? = some r) : i = j := by
  obtain ⟨h3, h4⟩ := List.getElem?_eq_some_iff.mp h1
  obtain ⟨h5, h6⟩ := List.getElem?_eq_some_iff.mp h2
  exact (List.getElem_inj hn).mp (h4.trans h6.symm)
theorem ch_mem {N : Int → Nat} {r a : Int} (h : a ∈ ch M N r) : a ∈ M.O r ∧ r ∈ (M.L a).take (N a) := by
  obtain ⟨h1, h2⟩ := top_mem h
  exact ⟨h1, of_decide_eq_true h2⟩
theorem ch_mono (hM : M.WF) {N N' : Int → Nat} {r a : Int} (hN : ∀ b, M.In b → N b ≤ N' b) (h : a ∈ ch M N' r) (ha : r ∈ (M.L a).take (N a)) : a ∈ ch M N r :=
  top_mono (fun x hx h => decide_eq_true (take_mono (hN x (hM.om r x hx)) (of_decide_eq_true h))) h (decide_eq_true ha)
theorem ch_congr (hM : M.WF) {N N' : Int → Nat} {r : Int} (h : ∀ b, M.In b → (r ∈ (M.L b).take (N b) ↔ r ∈ (M.L b).take (N' b))) : ch M N r = ch M N' r :=
  top_congr fun x hx => decide_eq_decide.mpr (h x (hM.om r x hx))
theorem Least.held (hM : M.WF) {P : Int → Nat} (h : Least M P) {a r : Int} (ha : M.In a) : (M.L a)[P a]? = some r ↔ a ∈ ch M (fun b => P b + 1) r := by
  refine ⟨h.cl a ha r, fun hc => ?_⟩
  obtain ⟨i, h1, h2⟩ := take_at (ch_mem hc).2
  by_cases e : i = P a
  · rw [← e]; exact h2
  exfalso
  have hlt : i < P a := by omega
  have hle : ∀ b, M.In b → (if b = a then i else P b) + 1 ≤ P b + 1 := fun b _ => by
    by_cases e : b = a
    · rw [if_pos e, e]; omega
    · rw [if_neg e]; omega
  have := h.ls (fun b => if b = a then i else P b) (fun b hb r' hr' => by
    dsimp only at hr'
    by_cases e : b = a
    · subst e
      rw [if_pos rfl, h2] at hr'
      cases hr'
      exact ch_mono hM hle hc (mem_take_of h2 (by dsimp only; rw [if_pos rfl]; omega))
    · rw [if_neg e] at hr'
      exact ch_mono hM hle (h.cl b hb r' hr') (mem_take_of hr' (by dsimp only; rw [if_neg e]; omega))) a ha
  rw [if_pos rfl] at this
  omega
theorem Least.uniq {P Q : Int → Nat} (h : Least M P) (k : Least M Q) {a : Int} (ha : M.In a) : P a = Q a :=
  Nat.le_antisymm (h.ls Q k.cl a ha) (k.ls P h.cl a ha)
def nums (n : Nat) : List Int := (List.range n).map fun (i : Nat) => (i : Int)
theorem mem_nums {n : Nat} {a : Int} : a ∈ nums n ↔ 0 ≤ a ∧ a < n := by
  unfold nums
  rw [List.mem_map]
  constructor
  · rintro ⟨i, hi, rfl⟩
    have := List.mem_range.mp hi
    omega
  · rintro ⟨h1, h2⟩
    exact ⟨a.toNat, List.mem_range.mpr (by omega), by omega⟩
theorem nums_nodup (n : Nat) : (nums n).Nodup := by
  unfold nums
  exact List.Pairwise.map _ (fun a b h e => h (by omega)) List.nodup_range
theorem nums_len (n : Nat) : (nums n).length = n := by unfold nums; rw [List.length_map, List.length_range]
theorem Least.count (hM : M.WF) {P : Int → Nat} (h : Least M P) (r : Int) : ((nums M.n).filter fun a => decide ((M.L a)[P a]? = some r)).length = (ch M (fun b => P b + 1) r).length :=
  len_eq (nd_filter _ (nums_nodup _)) (top_nodup (hM.on r)) fun a => by
    rw [List.mem_filter, mem_nums, decide_eq_true_iff]
    constructor
    · rintro ⟨h1, h2⟩; exact (h.held hM h1).mp h2
    · intro h1
      have := hM.om r a (ch_mem h1).1
      exact ⟨this, (h.held hM this).mpr h1⟩
structure Inv (M : Mk) (N : Int → Nat) (h : Int → Option Int) : Prop where
  le : ∀ a, M.In a → N a ≤ (M.L a).length
  held : ∀ a, M.In a → ∀ r, h a = some r ↔ a ∈ ch M N r
  rej : ∀ a, M.In a → ∀ r, r ∈ (M.L a).take (N a - 1) → a ∉ ch M N r
  low : ∀ P, Closed M P → ∀ a, M.In a → N a ≤ P a + 1
def plc (N : Int → Nat) (h : Int → Option Int) (a : Int) : Nat := if (h a).isSome then N a - 1 else N a
theorem Inv.last (hM : M.WF) {N : Int → Nat} {h : Int → Option Int} (hI : Inv M N h) {a r : Int} (ha : M.In a) (hr : h a = some r) : 0 < N a ∧ (M.L a)[N a - 1]? = some r := by
  have h1 := (hI.held a ha r).mp hr
  obtain ⟨i, h2, h3⟩ := take_at (ch_mem h1).2
  have h4 : ¬ i < N a - 1 := fun h => hI.rej a ha r (mem_take_of h3 h) h1
  have : i = N a - 1 := by omega
  exact ⟨by omega, this ▸ h3⟩
theorem Inv.fin (hM : M.WF) {N : Int → Nat} {h : Int → Option Int} (hI : Inv M N h) (hf : ∀ a, M.In a → h a = none → N a = (M.L a).length) : Least M (plc N h) ∧ ∀ a, M.In a → (M.L a)[plc N h a]? = h a := by
  have hp : ∀ a, M.In a → (M.L a)[plc N h a]? = h a := fun a ha => by
    unfold plc
    cases e : h a with
    | none => rw [if_neg (by simp), hf a ha e]; exact List.getElem?_eq_none (Nat.le_refl _)
    | some r => rw [if_pos (by simp)]; exact (hI.last hM ha e).2
  have hc : ∀ r, ch M (fun b => plc N h b + 1) r = ch M N r := fun r => ch_congr hM fun b hb => by
    unfold plc
    cases e : h b with
    | none =>
      rw [if_neg (by simp), hf b hb e, List.take_of_length_le (Nat.le_succ _), List.take_of_length_le (Nat.le_refl _)]
    | some r =>
      have := (hI.last hM hb e).1
      rw [if_pos (by simp), show N b - 1 + 1 = N b by omega]
  refine ⟨⟨fun a ha => ?_, fun a ha r hr => ?_, fun P hP a ha => ?_⟩, hp⟩
  · have := hI.le a ha
    unfold plc; split <;> omega
  · rw [hp a ha] at hr
    rw [hc r]
    exact (hI.held a ha r).mp hr
  · have h1 := hI.low P hP a ha
    unfold plc
    cases e : h a with
    | some r => rw [if_pos (by simp)]; omega
    | none =>
      rw [if_neg (by simp)]
      by_cases hlt : N a ≤ P a
      · exact hlt
      exfalso
      have h2 : N a = P a + 1 := by omega
      have h3 := hf a ha e
      have h4 : (M.L a)[P a]? = some ((M.L a)[P a]'(by omega)) := List.getElem?_eq_getElem _
      have h5 := ch_mono hM (fun b hb => hI.low P hP b hb) (hP a ha _ h4) (mem_take_of h4 (by omega))
      rw [(hI.held a ha _).mpr h5] at e
      cases e
def upd {α : Type} (N : Int → α) (a : Int) (v : α) : Int → α := fun b => if b = a then v else N b
theorem upd_at {α : Type} (N : Int → α) (a : Int) (v : α) : upd N a v a = v := if_pos rfl
theorem upd_ne {α : Type} (N : Int → α) {a b : Int} (v : α) (h : b ≠ a) : upd N a v b = N b := if_neg h
theorem take_succ_mem {l : List Int} {i : Nat} {r x : Int} (h : l[i]? = some r) : x ∈ l.take (i + 1) ↔ x ∈ l.take i ∨ x = r := by
  rw [List.take_add_one, h, Option.toList_some, List.mem_append, List.mem_singleton]
theorem ch_other {N : Int → Nat} {a r r' : Int} (hr : (M.L a)[N a]? = some r) (hne : r' ≠ r) : ch M (upd N a (N a + 1)) r' = ch M N r' :=
  top_congr fun x _ => by
    unfold ask
    by_cases e : x = a
    · subst e
      rw [upd_at]
      exact decide_eq_decide.mpr ((take_succ_mem hr).trans ⟨fun h => h.elim id fun h => (hne h).elim, .inl⟩)
    · rw [upd_ne _ _ e]
theorem Inv.step (hM : M.WF) {N : Int → Nat} {h h' : Int → Option Int} {a r : Int} (hI : Inv M N h) (ha : M.In a) (hn : h a = none) (hr : (M.L a)[N a]? = some r)
    (hh : ∀ b, M.In b → ∀ r', h' b = some r' ↔ b ∈ ch M (upd N a (N a + 1)) r') : Inv M (upd N a (N a + 1)) h' := by
  have hlt : N a < (M.L a).length := (List.getElem?_eq_some_iff.mp hr).1
  have hmono : ∀ b, M.In b → N b ≤ upd N a (N a + 1) b := fun b _ => by
    by_cases e : b = a
    · rw [e, upd_at]; omega
    · rw [upd_ne _ _ e]; omega
  refine ⟨fun b hb => ?_, hh, fun b hb r' h1 h2 => ?_, fun P hP b hb => ?_⟩
  · by_cases e : b = a
    · rw [e, upd_at]; omega
    · rw [upd_ne _ _ e]; exact hI.le b hb
  · by_cases e : b = a
    · subst e
      rw [upd_at, Nat.add_sub_cancel] at h1
      rw [(hI.held b hb r').mpr (ch_mono hM hmono h2 h1)] at hn
      cases hn
    · rw [upd_ne _ _ e] at h1
      exact hI.rej b hb r' h1 (ch_mono hM hmono h2 (take_mono (Nat.sub_le _ _) h1))
  · by_cases e : b = a
    · subst e
      rw [upd_at]
      have h1 := hI.low P hP b hb
      by_cases hle : N b ≤ P b
      · omega
      exfalso
      have h2 : N b = P b + 1 := by omega
      have h4 : (M.L b)[P b]? = some ((M.L b)[P b]'(by omega)) := List.getElem?_eq_getElem _
      have h5 := ch_mono hM (fun b hb => hI.low P hP b hb) (hP b hb _ h4) (mem_take_of h4 (by omega))
      rw [(hI.held b hb _).mpr h5] at hn
      cases hn
    · rw [upd_ne _ _ e]; exact hI.low P hP b hb
def rej (M : Mk) (N : Int → Nat) (r b : Int) : Prop := r ∈ (M.L b).take (N b) ∧ b ∉ ch M N r
structure Refd (M : Mk) (N : Int → Nat) (a r : Int) (ref : Option Int) : Prop where
  one : ∀ w, ref = some w → w ∈ ch M N r ∨ w = a
  ch : ∀ b, b ∈ DA.ch M (upd N a (N a + 1)) r ↔ (b ∈ DA.ch M N r ∨ b = a) ∧ ref ≠ some b
theorem Inv.next (hM : M.WF) {N : Int → Nat} {h h' : Int → Option Int} {a r : Int} {ref : Option Int} (hI : Inv M N h) (ha : M.In a) (hn : h a = none) (hr : (M.L a)[N a]? = some r)
    (hR : Refd M N a r ref) (hh : ∀ b, M.In b → h' b = if ref = some b then none else if b = a then some r else h b) : Inv M (upd N a (N a + 1)) h' := by
  refine hI.step hM ha hn hr fun b hb r' => ?_
  rw [hh b hb]
  by_cases e : r' = r
  · subst e
    rw [hR.ch b]
    by_cases e1 : ref = some b
    · rw [if_pos e1]
      exact ⟨fun h => (by cases h), fun h => (h.2 e1).elim⟩
    · rw [if_neg e1]
      by_cases e : b = a
      · rw [if_pos e]; exact ⟨fun _ => ⟨.inr e, e1⟩, fun _ => rfl⟩
      · rw [if_neg e, hI.held b hb r']; exact ⟨fun h => ⟨.inl h, e1⟩, fun h => h.1.elim id fun h => (e h).elim⟩
  · rw [ch_other hr e]
    by_cases e1 : ref = some b
    · rw [if_pos e1]
      refine ⟨fun h => (by cases h), fun h => ?_⟩
      exfalso
      rcases hR.one b e1 with h1 | h1
      · have h3 := (hI.held b hb r').mpr h
        rw [(hI.held b hb r).mpr h1] at h3
        cases h3; exact e rfl
      · have h3 := (hI.held b hb r').mpr h
        rw [h1, hn] at h3
        cases h3
    · rw [if_neg e1]
      by_cases e2 : b = a
      · rw [if_pos e2, ← hI.held b hb r', e2, hn]
        exact ⟨fun h => (by cases h; exact (e rfl).elim), fun h => (by cases h)⟩
      · rw [if_neg e2, hI.held b hb r']
theorem Refd.rej (hM : M.WF) {N : Int → Nat} {a r : Int} {ref : Option Int} (hr : (M.L a)[N a]? = some r) (hR : Refd M N a r ref) (r' b : Int) :
    rej M (upd N a (N a + 1)) r' b ↔ rej M N r' b ∨ (r' = r ∧ ref = some b) := by
  unfold DA.rej
  have hask : r' ∈ (M.L b).take (upd N a (N a + 1) b) ↔ r' ∈ (M.L b).take (N b) ∨ (b = a ∧ r' = r) := by
    by_cases e : b = a
    · subst e
      rw [upd_at, take_succ_mem hr]
      exact ⟨fun h => h.imp_right fun h => ⟨rfl, h⟩, fun h => h.imp_right fun h => h.2⟩
    · rw [upd_ne _ _ e]
      exact ⟨.inl, fun h => h.elim id fun h => (e h.1).elim⟩
  rw [hask]
  by_cases e : r' = r
  · subst e
    rw [hR.ch b]
    constructor
    · rintro ⟨h1, h2⟩
      by_cases e1 : ref = some b
      · exact .inr ⟨rfl, e1⟩
      · left
        rcases h1 with h1 | h1
        · exact ⟨h1, fun h => h2 ⟨.inl h, e1⟩⟩
        · exact (h2 ⟨.inr h1.1, e1⟩).elim
    · rintro (⟨h1, h2⟩ | ⟨_, h⟩)
      · refine ⟨.inl h1, fun h => ?_⟩
        rcases h.1 with h3 | h3
        · exact h2 h3
        · obtain ⟨i, h4, h5⟩ := take_at h1
          rw [h3] at h4 h5
          have := at_uniq (hM.ln a) h5 hr
          omega
      · refine ⟨?_, fun h1 => h1.2 h⟩
        rcases hR.one b h with h1 | h1
        · exact .inl (ch_mem h1).2
        · exact .inr ⟨h1, rfl⟩
  · rw [ch_other hr e]
    constructor
    · rintro ⟨h1 | h1, h2⟩
      · exact .inl ⟨h1, h2⟩
      · exact (e h1.2).elim
    · rintro (⟨h1, h2⟩ | h)
      · exact ⟨.inl h1, h2⟩
      · exact (e h.1).elim
theorem Refd.fresh (hM : M.WF) {N : Int → Nat} {a r w : Int} {ref : Option Int} (hr : (M.L a)[N a]? = some r) (hR : Refd M N a r ref) (h : ref = some w) : ¬ DA.rej M N r w := by
  rintro ⟨h1, h2⟩
  rcases hR.one w h with h3 | h3
  · exact h2 h3
  · obtain ⟨i, h4, h5⟩ := take_at h1
    rw [h3] at h4 h5
    have := at_uniq (hM.ln a) h5 hr
    omega
theorem Inv.congr (hM : M.WF) {N N' : Int → Nat} {h h' : Int → Option Int} (hI : Inv M N h) (hN : ∀ a, M.In a → N' a = N a) (hh : ∀ a, M.In a → h' a = h a) : Inv M N' h' := by
  have hc : ∀ r, ch M N' r = ch M N r := fun r => ch_congr hM fun b hb => by rw [hN b hb]
  refine ⟨fun a ha => by rw [hN a ha]; exact hI.le a ha, fun a ha r => by rw [hh a ha, hc]; exact hI.held a ha r, fun a ha r hr => ?_, fun P hP a ha => by rw [hN a ha]; exact hI.low P hP a ha⟩
  rw [hN a ha] at hr
  rw [hc]; exact hI.rej a ha r hr
end FD.DA


set_option Elab.async false
set_option linter.all false
set_option maxRecDepth 100000
namespace FD.Ty
open PySem L2 FD
theorem putG_new {κ α : Type} [DecidableEq κ] (kvs : List (κ × α)) (k : κ) (v : α) (h : ∀ p ∈ kvs, p.1 ≠ k) : putG kvs k v = kvs ++ [(k, v)] := by
  unfold putG
  rw [if_neg]
  intro hc
  rw [List.any_eq_true] at hc
  obtain ⟨p, hp, e⟩ := hc
  exact h p hp (of_decide_eq_true e)
theorem mergeG_new {κ α : Type} [DecidableEq κ] : ∀ (more kvs : List (κ × α)), (more.map (·.1)).Nodup → (∀ p ∈ kvs, ∀ q ∈ more, p.1 ≠ q.1) → mergeG kvs more = kvs ++ more
  | [], kvs, _, _ => by unfold mergeG; simp
  | q :: more, kvs, hn, h => by
    rw [List.map_cons, List.nodup_cons] at hn
    show mergeG (putG kvs q.1 q.2) more = _
    rw [putG_new kvs q.1 q.2 fun p hp => h p hp q List.mem_cons_self, mergeG_new more _ hn.2 fun p hp r hr => ?_]
    · simp
    · rcases List.mem_append.mp hp with hp | hp
      · exact h p hp r (List.mem_cons_of_mem _ hr)
      · rw [List.mem_singleton] at hp
        rw [hp]
        exact fun e => hn.1 (by
          show q.1 ∈ more.map (·.1)
          rw [show q.1 = r.1 from e]
          exact List.mem_map.mpr ⟨r, hr, rfl⟩)
def places (l : List Int) : List (Int × Int) := mergeG [] ((enumT l).map fun a => (a.2, a.1))
theorem ones_len {l : List Int} (h : l.Nodup) : (mergeG [] (l.map fun a => (a, (1 : Int)))).length = l.length := by
  rw [mergeG_new _ [] ?_ fun p hp => by cases hp]
  · simp
  · rw [List.map_map]
    have : ((fun (p : Int × Int) => p.1) ∘ fun (a : Int) => (a, (1 : Int))) = id := rfl
    rw [this, List.map_id]; exact h
def hf (l : List (Option Int)) (a : Int) : Option Int := (l[a.toNat]?).getD none
def nf (l : List Int) (a : Int) : Nat := ((l[a.toNat]?).getD 0).toNat
structure Raw (L O : List (List Int)) (S : List Int) : Prop where
  n : L.length ≤ 30
  m : O.length ≤ 30
  sl : S.length = O.length
  s0 : ∀ c ∈ S, 0 ≤ c
  l : ∀ q ∈ L, q.Nodup ∧ ∀ x ∈ q, 0 ≤ x ∧ x < O.length
  o : ∀ q ∈ O, q.Nodup ∧ ∀ x ∈ q, 0 ≤ x ∧ x < L.length
variable {L O : List (List Int)} {S : List Int}
theorem nodup_len {l : List Int} {n : Nat} (h : l.Nodup) (hx : ∀ x ∈ l, 0 ≤ x ∧ x < (n : Int)) : l.length ≤ n := by
  have h1 : (l ++ (DA.nums n).filter fun x => !decide (x ∈ l)).Perm (DA.nums n) := (List.perm_ext_iff_of_nodup (by
    rw [List.nodup_append]
    refine ⟨h, DA.nd_filter _ (DA.nums_nodup n), fun a ha b hb e => ?_⟩
    have := (List.mem_filter.mp hb).2
    rw [← e, decide_eq_true ha] at this
    cases this) (DA.nums_nodup n)).mpr fun a => by
      rw [List.mem_append, List.mem_filter, DA.mem_nums]
      constructor
      · rintro (h | h)
        · exact hx a h
        · exact h.1
      · intro h
        by_cases e : a ∈ l
        · exact .inl e
        · exact .inr ⟨h, by rw [decide_eq_false e]; rfl⟩
  have := h1.length_eq
  rw [List.length_append, DA.nums_len] at this
  omega
end FD.Ty


set_option Elab.async false
set_option linter.all false
set_option maxRecDepth 100000
namespace FD.K46
open PySem L2 FD FD.Ty FD.TT
theorem nums_mem {n : Nat} {x : Int} : x ∈ nums n ↔ 0 ≤ x ∧ x < (n : Int) := by
  unfold nums
  rw [List.mem_map]
  constructor
  · rintro ⟨i, hi, rfl⟩
    have := List.mem_range.mp hi
    omega
  · rintro ⟨h1, h2⟩
    exact ⟨x.toNat, List.mem_range.mpr (by omega), by omega⟩
theorem nums_nodup (n : Nat) : (nums n).Nodup := by
  unfold nums
  rw [List.Nodup, List.pairwise_map]
  exact List.Pairwise.imp (fun {a b : Nat} (h : a < b) (e : (a : Int) = (b : Int)) => by omega) (List.pairwise_lt_range (n := n))
theorem check_ok {q : List Int} {n : Nat} (hn : n ≤ 100) (h : q.Perm (nums n)) : t_check_list q (n : Int) = .ok q := by
  have hl : q.length = n := by rw [h.length_eq, nums_len]
  unfold t_check_list
  rw [sz (by omega), grd_true, bind_ok, bind_ok, bind_ok, ones_len (h.nodup_iff.mpr (nums_nodup n))]
  have e1 : (!decide ((q.length : Int) = (q.length : Int))) = false := by rw [decide_eq_true rfl]; rfl
  have e2 : (q.any fun a5 => true && (!(decide ((0 : Int) ≤ a5) && decide (a5 < (n : Int))))) = false := by
    rw [List.any_eq_false]
    intro x hx
    obtain ⟨h1, h2⟩ := nums_mem.mp (h.mem_iff.mp hx)
    rw [decide_eq_true h1, decide_eq_true h2]; decide
  refine Ok.eq (Ok.fin (Tr.te rfl ?_))
  rw [e1, e2]; rfl
theorem check2_ok {q : Bool × List Int} {n : Nat} (hn : n ≤ 100) (h : q.2.Perm (nums n)) : t_check_list_2 q (n : Int) = .ok q := by
  have hl : q.2.length = n := by rw [h.length_eq, nums_len]
  unfold t_check_list_2
  rw [sz (by omega), grd_true, bind_ok, bind_ok, bind_ok, ones_len (h.nodup_iff.mpr (nums_nodup n))]
  have e1 : (!decide ((q.2.length : Int) = (q.2.length : Int))) = false := by rw [decide_eq_true rfl]; rfl
  have e2 : (q.2.any fun a5 => true && (!(decide ((0 : Int) ≤ a5) && decide (a5 < (n : Int))))) = false := by
    rw [List.any_eq_false]
    intro x hx
    obtain ⟨h1, h2⟩ := nums_mem.mp (h.mem_iff.mp hx)
    rw [decide_eq_true h1, decide_eq_true h2]; decide
  refine Ok.eq (Ok.fin (Tr.te rfl ?_))
  rw [e1, e2]; rfl
structure Prof (n : Nat) (l : List (List Int)) : Prop where
  len : l.length = n
  all : ∀ q ∈ l, q.Perm (nums n)
theorem lists_ok {n : Nat} {l : List (List Int)} (hn : n ≤ 100) (h : Prof n l) : t_check_lists l = .ok l := by
  have hl := h.len
  unfold t_check_lists
  refine Ok.eq (Ok.fin (Tr.te rfl ?_))
  refine Tr.te (v := l) ?_ ?_
  · rw [sz (by omega), grd_true, lcM_ok (q := fun _ => true) (g := fun a => a) fun a ha => ⟨rfl, fun _ => by rw [hl]; exact check_ok hn (h.all a ha)⟩]
    rw [List.filter_eq_self.mpr fun _ _ => rfl, List.map_id']
  · have e2 : (l.any fun a5 => true && (!decide ((a5.length : Int) = (l.length : Int)))) = false := by
      rw [List.any_eq_false]
      intro x hx
      rw [(h.all x hx).length_eq, nums_len, hl, decide_eq_true rfl]; decide
    rw [e2]; rfl
theorem lists2_ok {n : Nat} {l : List (Bool × List Int)} (hn : n ≤ 100) (h : Prof n (l.map (·.2))) : t_check_lists_2 l = .ok l := by
  have hl := h.len
  rw [List.length_map] at hl
  have hall : ∀ q ∈ l, q.2.Perm (nums n) := fun q hq => h.all _ (List.mem_map_of_mem hq)
  unfold t_check_lists_2
  refine Ok.eq (Ok.fin (Tr.te rfl ?_))
  refine Tr.te (v := l) ?_ ?_
  · rw [sz (by omega), grd_true, lcM_ok (q := fun _ => true) (g := fun a => a) fun a ha => ⟨rfl, fun _ => by rw [hl]; exact check2_ok hn (hall a ha)⟩]
    rw [List.filter_eq_self.mpr fun _ _ => rfl, List.map_id']
  · have e2 : (l.any fun a5 => true && (!decide ((a5.2.length : Int) = (l.length : Int)))) = false := by
      rw [List.any_eq_false]
      intro x hx
      rw [(hall x hx).length_eq, nums_len, hl, decide_eq_true rfl]; decide
    rw [e2]; rfl
end FD.K46


set_option Elab.async false
set_option linter.all false
set_option maxRecDepth 100000
namespace FD.K46
open PySem L2 FD FD.Ty FD.TT
def lg (l : List (List Int)) (a : Int) : List Int := (l[a.toNat]?).getD []
theorem lg_at {l : List (List Int)} {a : Int} (h0 : 0 ≤ a) (h : a < l.length) : atM l a = .ok (lg l a) := by
  rw [atM_int h0 h]
  unfold lg
  rw [List.getElem?_eq_getElem (by omega)]; rfl
theorem lg_mem {l : List (List Int)} {a : Int} (h0 : 0 ≤ a) (h : a < l.length) : lg l a ∈ l := by
  unfold lg
  rw [List.getElem?_eq_getElem (by omega)]
  exact List.getElem_mem _
def tp (l : List (List Int)) (left : List Int) (a : Int) : Int := ((lg l a).filter fun x => memB x left).headD 0
theorem head_first {p : Int → Bool} : ∀ {q : List Int} {y : Int}, y ∈ q → p y = true → ((q.filter p).headD 0) ∈ q ∧ p ((q.filter p).headD 0) = true ∧ q.idxOf ((q.filter p).headD 0) ≤ q.idxOf y
  | [], _, h, _ => by cases h
  | a :: q, y, h, hp => by
    by_cases ha : p a = true
    · rw [List.filter_cons_of_pos ha]
      show a ∈ a :: q ∧ p a = true ∧ (a :: q).idxOf a ≤ _
      rw [List.idxOf_cons_self]
      exact ⟨List.mem_cons_self, ha, Nat.zero_le _⟩
    · rw [List.filter_cons_of_neg ha]
      have hy : y ≠ a := fun e => ha (e ▸ hp)
      obtain ⟨h1, h2, h3⟩ := head_first ((List.mem_cons.mp h).resolve_left hy) hp
      have hz : (q.filter p).headD 0 ≠ a := fun e => ha (e ▸ h2)
      have ix : ∀ z, z ≠ a → (a :: q).idxOf z = q.idxOf z + 1 := fun z hz => by
        rw [List.idxOf_cons, show (a == z) = false from beq_eq_false_iff_ne.mpr (Ne.symm hz)]; rfl
      refine ⟨List.mem_cons_of_mem _ h1, h2, ?_⟩
      rw [ix _ hz, ix _ hy]
      omega
structure Left (n : Nat) (left : List Int) : Prop where
  nd : left.Nodup
  sub : ∀ a ∈ left, 0 ≤ a ∧ a < (n : Int)
variable {n : Nat} {l : List (List Int)} {left : List Int}
theorem Left.len (L : Left n left) : left.length ≤ n := nodup_len L.nd L.sub
theorem tp_ok (h : Prof n l) (L : Left n left) {a : Int} (ha : a ∈ left) : tp l left a ∈ left ∧ ∀ y ∈ left, (lg l a).idxOf (tp l left a) ≤ (lg l a).idxOf y := by
  obtain ⟨h0, h1⟩ := L.sub a ha
  have hp := h.all _ (lg_mem h0 (by rw [h.len]; exact h1))
  have hin : ∀ y ∈ left, y ∈ lg l a := fun y hy => hp.mem_iff.mpr (nums_mem.mpr (L.sub y hy))
  refine ⟨?_, fun y hy => (head_first (hin y hy) (p := fun x => memB x left) (by simpa using hy)).2.2⟩
  have := (head_first (hin a ha) (p := fun x => memB x left) (by simpa using ha)).2.1
  exact (memB_true _ _).mp this
theorem hd_at {q : List Int} (h : q ≠ []) : atM q 0 = .ok (q.headD 0) := by
  cases q with
  | nil => exact absurd rfl h
  | cons a q => rw [atM_int (Int.le_refl 0) (by rw [List.length_cons]; omega)]; rfl
theorem point_ok (hn : n ≤ 100) (h : Prof n l) (L : Left n left) {a : Int} (ha : a ∈ left) :
    (R.bind (R.bind (R.bind (atM l a) fun l38 => grd (szOk l38.length) (lcM (fun a37 => (R.ok (memB a37 left))) (fun a37 => (R.ok a37)) l38) R.stk) fun x39 => (atM x39 (0 : Int))) fun x40 => R.ok (a, x40)) = (.ok (a, tp l left a) : M (Int × Int)) := by
  obtain ⟨h0, h1⟩ := L.sub a ha
  have hp := h.all _ (lg_mem h0 (by rw [h.len]; exact h1))
  have hl : (lg l a).length = n := by rw [hp.length_eq, nums_len]
  have hin : a ∈ (lg l a).filter fun x => memB x left := List.mem_filter.mpr ⟨hp.mem_iff.mpr (nums_mem.mpr ⟨h0, h1⟩), by simpa using ha⟩
  rw [lg_at h0 (by rw [h.len]; exact h1), bind_ok, sz (by omega), grd_true, lcM_ok (q := fun x => memB x left) (g := fun x => x) fun x _ => ⟨rfl, fun _ => rfl⟩, List.map_id', bind_ok, hd_at (List.ne_nil_of_mem hin), bind_ok]
  rfl
theorem points_ok (hn : n ≤ 100) (h : Prof n l) (L : Left n left) :
    grd (szOk left.length) (lcM (fun a36 => (R.ok true)) (fun a36 => (R.bind (R.bind (R.bind (atM l a36) fun l38 => grd (szOk l38.length) (lcM (fun a37 => (R.ok (memB a37 left))) (fun a37 => (R.ok a37)) l38) R.stk) fun x39 => (atM x39 (0 : Int))) fun x40 => R.ok (a36, x40))) left) R.stk = (.ok (left.map fun a => (a, tp l left a)) : M (List (Int × Int))) := by
  have := L.len
  rw [sz (by omega), grd_true, lcM_ok (q := fun _ => true) (g := fun a => (a, tp l left a)) fun a ha => ⟨rfl, fun _ => point_ok hn h L ha⟩, List.filter_eq_self.mpr fun _ _ => rfl]
theorem dict_id (L : Left n left) (g : Int → Int) : mergeG [] (left.map fun a => (a, g a)) = left.map fun a => (a, g a) := by
  rw [mergeG_new _ _ (by rw [List.map_map]; show (left.map fun a => a).Nodup; rw [List.map_id']; exact L.nd) (fun p hp => by cases hp), List.nil_append]
theorem look_self {g : Int → Int} {a : Int} : ∀ {left : List Int}, a ∈ left → look (left.map fun a => (a, g a)) a = some (g a)
  | [], h => by cases h
  | b :: r, h => by
    by_cases e : b = a
    · subst e
      simp [look]
    · have := look_self (g := g) ((List.mem_cons.mp h).resolve_left (Ne.symm e))
      simp [look, e] at this ⊢
      exact this
end FD.K46


set_option Elab.async false
set_option linter.all false
set_option maxRecDepth 100000
namespace FD.K46
open PySem L2 FD FD.Ty FD.TT
variable {n : Nat} {l : List (List Int)} {left : List Int}
open Classical in
noncomputable def lefts (n : Nat) (l : List (List Int)) : Nat → List Int
  | 0 => nums n
  | i + 1 => (lefts n l i).filter fun x => decide (¬ Per (tp l (lefts n l i)) x)
theorem lefts_ok : ∀ i, Left n (lefts n l i)
  | 0 => ⟨nums_nodup n, fun a h => nums_mem.mp h⟩
  | i + 1 => ⟨(lefts_ok i).nd.sublist List.filter_sublist, fun a h => (lefts_ok i).sub a (List.mem_filter.mp h).1⟩
open Classical in
theorem lefts_go {i : Nat} {a : Int} : a ∈ lefts n l (i + 1) ↔ a ∈ lefts n l i ∧ ¬ Per (tp l (lefts n l i)) a := by
  show a ∈ (lefts n l i).filter _ ↔ _
  rw [List.mem_filter, decide_eq_true_eq]
theorem run_ok (h : Prof n l) : Run (fun a x => (lg l a).idxOf x) (fun i a => a ∈ lefts n l i) (fun i => tp l (lefts n l i)) :=
  ⟨fun i a ha => tp_ok h (lefts_ok i) ha, fun i a => lefts_go⟩
theorem rank_inj (h : Prof n l) (a x y : Int) (ha : a ∈ lefts n l 0) (hx : x ∈ lefts n l 0) (hy : y ∈ lefts n l 0) (e : (lg l a).idxOf x = (lg l a).idxOf y) : x = y := by
  obtain ⟨h0, h1⟩ := nums_mem.mp ha
  have hp := h.all _ (lg_mem h0 (by rw [h.len]; exact h1))
  have g1 := idx_get (hp.mem_iff.mpr hx)
  have g2 := idx_get (hp.mem_iff.mpr hy)
  rw [e] at g1
  exact Option.some.inj (g1.symm.trans g2)
theorem lc0_Ok {α β : Type} {f : α → M β} {P : α → β → Prop} : ∀ {l : List α}, (∀ a ∈ l, Ok (f a) (P a)) → Ok (lc0 f l) fun r => Paired P l r
  | [], _ => .ok .nil
  | a :: l, h => by
    obtain ⟨x, e1, p1⟩ := h a List.mem_cons_self
    obtain ⟨r, e2, p2⟩ := lc0_Ok fun b hb => h b (List.mem_cons_of_mem _ hb)
    unfold lc0
    rw [e1, e2]
    exact .ok (.cons p1 p2)
theorem ddL_mem {c : List Int} : ∀ {r acc : List (List Int)}, c ∈ ddL acc r ↔ c ∈ acc ∨ c ∈ r
  | [], acc => by show c ∈ acc ↔ _; simp
  | x :: r, acc => by
    show c ∈ ddL (if x ∈ acc then acc else acc ++ [x]) r ↔ _
    rw [ddL_mem]
    by_cases h : x ∈ acc
    · rw [if_pos h, List.mem_cons]
      exact ⟨fun q => q.elim .inl fun q => .inr (.inr q), fun q => q.elim .inl fun q => q.elim (fun e => .inl (e ▸ h)) .inr⟩
    · rw [if_neg h, List.mem_append, List.mem_singleton, List.mem_cons]
      exact ⟨fun q => q.elim (fun q => q.elim .inl fun e => .inr (.inl e)) fun q => .inr (.inr q), fun q => q.elim (fun q => .inl (.inl q)) fun q => q.elim (fun e => .inl (.inr e)) .inr⟩
theorem ddL_nodup : ∀ {r acc : List (List Int)}, acc.Nodup → (ddL acc r).Nodup
  | [], _, h => h
  | x :: r, acc, h => by
    show (ddL (if x ∈ acc then acc else acc ++ [x]) r).Nodup
    refine ddL_nodup ?_
    by_cases hx : x ∈ acc
    · rw [if_pos hx]; exact h
    · rw [if_neg hx, List.nodup_append]
      refine ⟨h, List.pairwise_singleton _ _, fun a ha b hb e => ?_⟩
      rw [List.mem_singleton.mp hb] at e
      exact hx (e ▸ ha)
structure Row (f : Int → Int) (left : List Int) (R : List (List Int)) : Prop where
  nd : R.Nodup
  mem : ∀ c, c ∈ R ↔ ∃ a ∈ left, IsRing f a c
  sub : ∀ c ∈ R, ∀ x ∈ c, x ∈ left
  ex : ∀ a ∈ left, ∃ c ∈ R, IsRing f a c
theorem rings_ok (hn : n ≤ 100) (h : Prof n l) (L : Left n left) : Ok (R.bind (grd (szOk left.length) (lc0 (fun a44 => R.bind (R.bind (R.bind (t_circle_from (left.map fun a => (a, tp l left a)) a44) fun x45 => R.bind (R.ok ()) fun v => R.ok (x45, v)) fun v48 => R.ok ((v48.1, (1 : Int)), ())) fun x50 => R.ok x50.1) left) R.stk) fun x51 => R.bind (srtDT x51) fun x53 => R.ok (x53, ())) fun v => Row (tp l left) left v.1 := by
  have hl := L.len
  have hf : ∀ a ∈ left, lookM (left.map fun a => (a, tp l left a)) a = .ok (tp l left a) ∧ tp l left a ∈ left := fun a ha => by
    refine ⟨?_, (tp_ok h L ha).1⟩
    unfold lookM
    rw [look_self ha]; rfl
  refine Ok.bind (Ok.g (sz (by omega)) (lc0_Ok (P := fun a (v : List Int × Int) => IsRing (tp l left) a v.1 ∧ ∀ x ∈ v.1, x ∈ left) fun a ha => ?_)) fun r hr => ?_
  · obtain ⟨c, e, p⟩ := circle_ok (p := left.map fun a => (a, tp l left a)) (by omega) hf ha
    rw [e]
    exact .ok p
  · have hall : ∀ v ∈ r, ∃ a ∈ left, IsRing (tp l left) a v.1 ∧ ∀ x ∈ v.1, x ∈ left := by
      have : ∀ {xs : List Int} {r : List (List Int × Int)}, Paired (fun a (v : List Int × Int) => IsRing (tp l left) a v.1 ∧ ∀ x ∈ v.1, x ∈ left) xs r → ∀ v ∈ r, ∃ a ∈ xs, IsRing (tp l left) a v.1 ∧ ∀ x ∈ v.1, x ∈ left := by
        intro xs r q
        induction q with
        | nil => intro v hv; cases hv
        | cons p _ ih =>
          intro v hv
          rcases List.mem_cons.mp hv with rfl | hv
          · exact ⟨_, List.mem_cons_self, p⟩
          · obtain ⟨a, ha, z⟩ := ih v hv
            exact ⟨a, List.mem_cons_of_mem _ ha, z⟩
      exact this hr
    have hex : ∀ a ∈ left, ∃ v ∈ r, IsRing (tp l left) a v.1 := by
      have : ∀ {xs : List Int} {r : List (List Int × Int)}, Paired (fun a (v : List Int × Int) => IsRing (tp l left) a v.1 ∧ ∀ x ∈ v.1, x ∈ left) xs r → ∀ a ∈ xs, ∃ v ∈ r, IsRing (tp l left) a v.1 := by
        intro xs r q
        induction q with
        | nil => intro v hv; cases hv
        | cons p _ ih =>
          intro v hv
          rcases List.mem_cons.mp hv with rfl | hv
          · exact ⟨_, List.mem_cons_self, p.1⟩
          · obtain ⟨a, ha, z⟩ := ih v hv
            exact ⟨a, List.mem_cons_of_mem _ ha, z⟩
      exact this hr
    have hne : (r.all fun p => !p.1.isEmpty) = true := by
      rw [List.all_eq_true]
      intro v hv
      obtain ⟨a, _, ⟨b, m, hm, e, _⟩, _⟩ := hall v hv
      rw [e]
      have : way (tp l left) b m ≠ [] := fun e => by
        have := congrArg List.length e
        rw [way_len] at this
        have : m = 0 := this
        omega
      cases q : way (tp l left) b m with
      | nil => exact absurd q this
      | cons x y => rfl
    unfold srtDT
    rw [hne, grd_true, bind_ok]
    refine .ok ⟨(sortLx_perm _).nodup_iff.mpr (ddL_nodup List.nodup_nil), fun c => ?_, fun c hc => ?_, fun a ha => ?_⟩
    · show c ∈ sortLx _ ↔ _
      rw [(sortLx_perm _).mem_iff, ddL_mem]
      constructor
      · rintro (hc | hc)
        · cases hc
        · obtain ⟨v, hv, rfl⟩ := List.mem_map.mp hc
          obtain ⟨a, ha, z, _⟩ := hall v hv
          exact ⟨a, ha, z⟩
      · rintro ⟨a, ha, z⟩
        obtain ⟨v, hv, z'⟩ := hex a ha
        have e : v.1 = c := by
          obtain ⟨b, m, hm, e1, hc1, _, _, j, hj⟩ := z
          obtain ⟨b', m', hm', e2, hc2, _, _, j', hj'⟩ := z'
          have y1 : it (tp l left) (j + j') a ∈ c := by
            rw [it_add, hj]
            exact IsRing.all ⟨b, m, hm, e1, hc1, by assumption, by assumption, j, hj⟩ (by rw [e1]; exact way_mem.mpr ⟨0, hm, rfl⟩) _
          have y2 : it (tp l left) (j + j') a ∈ v.1 := by
            rw [Nat.add_comm, it_add, hj']
            exact IsRing.all ⟨b', m', hm', e2, hc2, by assumption, by assumption, j', hj'⟩ (by rw [e2]; exact way_mem.mpr ⟨0, hm', rfl⟩) _
          exact IsRing.same ⟨b', m', hm', e2, hc2, by assumption, by assumption, j', hj'⟩ ⟨b, m, hm, e1, hc1, by assumption, by assumption, j, hj⟩ y2 y1
        exact .inr (e ▸ List.mem_map_of_mem hv)
    · have hc' : c ∈ ddL [] (r.map fun p => p.1) := (sortLx_perm _).mem_iff.mp hc
      rcases ddL_mem.mp hc' with hc' | hc'
      · cases hc'
      · obtain ⟨v, hv, rfl⟩ := List.mem_map.mp hc'
        obtain ⟨a, _, _, z⟩ := hall v hv
        exact z
    · obtain ⟨v, hv, z⟩ := hex a ha
      exact ⟨v.1, (sortLx_perm _).mem_iff.mpr (ddL_mem.mpr (.inr (List.mem_map_of_mem hv))), z⟩
end FD.K46


set_option Elab.async false
set_option linter.all false
set_option maxRecDepth 100000
namespace FD.K46
open PySem L2 FD FD.Ty FD.TT
variable {n : Nat} {l : List (List Int)} {left : List Int}
theorem Row.flat {f : Int → Int} {R : List (List Int)} (h : Row f left R) : R.flatten.Nodup := by
  rw [List.Nodup, List.pairwise_flatten]
  refine ⟨fun c hc => ?_, List.Pairwise.imp_of_mem (fun {c c'} hc hc' ne x hx y hy e => ?_) h.nd⟩
  · obtain ⟨a, _, b, m, _, _, _, nd, _⟩ := (h.mem c).mp hc
    exact nd
  · obtain ⟨a, _, z⟩ := (h.mem c).mp hc
    obtain ⟨a', _, z'⟩ := (h.mem c').mp hc'
    exact ne (z.same z' hx (e ▸ hy))
theorem Row.gone {f : Int → Int} {R : List (List Int)} (h : Row f left R) (hf : ∀ a ∈ left, f a ∈ left) {x : Int} (hx : x ∈ left) : x ∈ R.flatten ↔ Per f x := by
  rw [List.mem_flatten]
  constructor
  · rintro ⟨c, hc, hxc⟩
    obtain ⟨a, _, z⟩ := (h.mem c).mp hc
    exact z.per hxc
  · intro p
    obtain ⟨c, hc, z⟩ := h.ex x hx
    exact ⟨c, hc, z.self p⟩
theorem gone_ok {α : Type} {rs : List (List α)} (h : rs.flatten.length ≤ 100000) : lc2M (fun a56 => (R.ok true)) (fun a56 => (R.ok a56)) (fun a56 c57 => (R.ok true)) (fun a56 c57 => (R.ok c57)) rs [] = (.ok rs.flatten : M (List α)) := by
  rw [lc2M_ok (P := fun _ => true) (I := fun a => a) (Q := fun _ _ => true) (g := fun _ c => c) (fun a _ => ⟨rfl, fun _ => ⟨rfl, fun c _ => ⟨rfl, fun _ => rfl⟩⟩⟩) (by
    rw [List.length_flatten] at h
    show 0 + (rs.map fun a => a.length).sum ≤ _
    have : (rs.map fun a => a.length).sum ≤ 100000 := h
    rw [lim_eq, sizeLine_eq]
    omega)]
  rw [List.nil_append, List.filter_eq_self.mpr fun _ _ => rfl, List.flatMap_def]
  congr 2
  have : (fun (a : List α) => (a.filter fun _ => true).map fun c => c) = id := by
    funext a
    rw [List.filter_eq_self.mpr fun _ _ => rfl, List.map_id']; rfl
  rw [this, List.map_id]
open Classical in
theorem rounds_ok' (hn : n ≤ 100) (h : Prof n l) : Ok (t_rounds l) fun rows => ∃ m, lefts n l m = [] ∧ (rows.length = m ∧ m ≤ n) ∧ ∀ i R, rows[i]? = some R → Row (tp l (lefts n l i)) (lefts n l i) R ∧ lefts n l i ≠ [] := by
  have hl := h.len
  unfold t_rounds
  refine Ok.fin (Tr.te (lists_ok hn h) (Tr.te (v := nums n) ?_ ?_))
  · rw [hl, rngM_nat (by omega)]; rfl
  refine Tr.s (N' := fun (s : List Int × List (List (List Int))) => ∃ m, lefts n l m = [] ∧ (s.2.length = m ∧ m ≤ n) ∧ ∀ i R, s.2[i]? = some R → Row (tp l (lefts n l i)) (lefts n l i) R ∧ lefts n l i ≠ []) ?_ fun s hs => hs
  refine Tr.wh (fun s => ∃ i, s.1 = lefts n l i ∧ s.2.length = i ∧ i + s.1.length ≤ n ∧ ∀ j R, s.2[j]? = some R → Row (tp l (lefts n l j)) (lefts n l j) R ∧ lefts n l j ≠ []) (fun s => s.1.length) (fun s ⟨i, e1, e2, e3, e4⟩ => ?_) _ _ ⟨0, rfl, rfl, by rw [Nat.zero_add]; show (nums n).length ≤ n; rw [nums_len]; exact Nat.le_refl _, fun j R e => by cases e⟩ (fuelW_gt (by show (nums n).length < 1000; rw [nums_len]; omega))
  have L : Left n s.1 := by rw [e1]; exact lefts_ok i
  have hf : ∀ a ∈ s.1, tp l s.1 a ∈ s.1 := fun a ha => (tp_ok h L ha).1
  refine .ok ⟨fun hb => ?_, fun hb => ?_⟩
  · have hne : s.1 ≠ [] := by simpa using hb
    refine Tr.te (v := s.1.map fun a => (a, tp l s.1 a)) ?_ ?_
    · rw [points_ok hn h L, bind_ok, dict_id L]
    refine Tr.t (rings_ok hn h L) fun v hv => ?_
    have hfl : v.1.flatten.length ≤ n := by
      refine Nat.le_trans (nd_len hv.flat fun x hx => ?_) L.len
      obtain ⟨c, hc, hxc⟩ := List.mem_flatten.mp hx
      exact hv.sub c hc x hxc
    refine Tr.te (appM_ok (by show s.2.length ≤ _; omega)) (Tr.te (v := v.1.flatten) ?_ ?_)
    · rw [bind_ok]; exact gone_ok (by omega)
    have enx : (s.1.filter fun a60 => (!memB a60 v.1.flatten)).map (fun a60 => a60) = lefts n l (i + 1) := by
      rw [List.map_id']
      show _ = (lefts n l i).filter _
      rw [← e1]
      refine List.filter_congr fun x hx => ?_
      have := hv.gone hf hx
      by_cases p : Per (tp l s.1) x
      · rw [(memB_true _ _).mpr (this.mpr p), decide_eq_false (fun q => q p)]; rfl
      · rw [(memB_false _ _).mpr (fun q => p (this.mp q)), decide_eq_true p]; rfl
    have hls := L.len
    refine Tr.te (v := lefts n l (i + 1)) (by rw [sz (by omega), grd_true, enx]) ?_
    have hlt : (lefts n l (i + 1)).length < s.1.length := by
      obtain ⟨a, ha⟩ := List.exists_mem_of_ne_nil _ hne
      obtain ⟨j, hj⟩ := some_per (tp l s.1) s.1 hf ha
      have hin : ∀ j, it (tp l s.1) j a ∈ s.1 := fun j => by
        induction j with
        | zero => exact ha
        | succ j ih => rw [it_succ]; exact hf _ ih
      show ((lefts n l i).filter _).length < _
      rw [← e1]
      refine List.length_filter_lt_length_iff_exists.mpr ⟨_, hin j, ?_⟩
      rw [decide_eq_true_eq]
      exact fun q => q hj
    refine ⟨⟨i + 1, rfl, ?_, ?_, fun j R e => ?_⟩, hlt⟩
    · show (s.2 ++ [v.1]).length = _
      rw [List.length_append, e2]; rfl
    · show i + 1 + (lefts n l (i + 1)).length ≤ n
      omega
    · rw [List.getElem?_append] at e
      split at e
      · exact e4 j R e
      · rename_i hj
        have ej : j = i := by
          have := (List.getElem?_eq_some_iff.mp e).1
          rw [List.length_singleton] at this
          omega
        rw [ej, e2, Nat.sub_self] at e
        cases e
        rw [ej, ← e1]
        exact ⟨hv, hne⟩
  · have he : s.1 = [] := by simpa using hb
    exact ⟨i, by rw [← e1, he], ⟨e2, by omega⟩, e4⟩
end FD.K46


set_option Elab.async false
set_option linter.all false
set_option maxRecDepth 100000
namespace FD.K46
open PySem L2 FD FD.Ty FD.TT
variable {n : Nat}
theorem atM_snd (l : List (Bool × List Int)) (a : Int) : (R.bind (atM l a) fun x => R.ok x.2) = (atM (l.map fun v => v.2) a : M (List Int)) := by
  unfold atM
  rw [atI_map]
  cases atI l a <;> rfl
theorem rounds_2 (hn : n ≤ 100) {l : List (Bool × List Int)} (h : Prof n (l.map fun v => v.2)) : t_rounds_2 l = t_rounds (l.map fun v => v.2) := by
  unfold t_rounds_2 t_rounds
  rw [lists2_ok hn h, lists_ok hn h]
  simp only [FD.Ty.thn, atM_snd, List.length_map]
theorem trade_2 (hn : n ≤ 100) {l : List (Bool × List Int)} (h : Prof n (l.map fun v => v.2)) : t_trade_2 l = t_trade (l.map fun v => v.2) := by
  unfold t_trade_2 t_trade
  rw [rounds_2 hn h, List.length_map]
theorem in_turn_2 {l : List (Bool × List Int)} (o : List Int) : t_in_turn_2 l o = t_in_turn (l.map fun v => v.2) o := by
  unfold t_in_turn_2 t_in_turn
  simp only [atM_snd, List.length_map]
end FD.K46


set_option Elab.async false
set_option linter.all false
set_option maxRecDepth 100000
namespace FD.K46
open PySem L2 FD FD.Ty FD.TT
variable {n : Nat}
def gt (s : List (Option Int)) (x : Int) : Option Int := (s[x.toNat]?).getD none
theorem gt_set {s : List (Option Int)} {x y : Int} {v : Option Int} (hx : 0 ≤ x ∧ x < s.length) (hy : 0 ≤ y) : gt (s.set x.toNat v) y = if y = x then v else gt s y := by
  unfold gt
  rw [List.getElem?_set]
  by_cases e : y = x
  · subst e
    rw [if_pos rfl, if_pos rfl, if_pos (by omega)]; rfl
  · rw [if_neg e, if_neg (by omega)]
theorem next_ok {f : Int → Int} {a : Int} {c : List Int} (h : IsRing f a c) (hl : c.length ≤ 1000) {i : Nat} {x : Int} (hx : c[i]? = some x) : (R.bind (modM ((i : Int) + (1 : Int)) (c.length : Int)) fun x35 => (atM c x35)) = (.ok (f x) : M Int) := by
  obtain ⟨b, m, hm, e, hc, _⟩ := h
  subst e
  have hi : i < m := by
    have := (List.getElem?_eq_some_iff.mp hx).1
    rwa [way_len] at this
  rw [way_get hi] at hx
  cases hx
  rw [way_len]
  unfold modM
  rw [decide_eq_true (by omega : (0 : Int) < (m : Int)), grd_true, bind_ok]
  have e1 : ((i : Int) + 1) % (m : Int) = (((i + 1) % m : Nat) : Int) := by rw [Int.natCast_emod]; rfl
  rw [e1]
  have hlt : (i + 1) % m < m := Nat.mod_lt _ hm
  rw [atM_int (by omega) (by rw [way_len]; omega)]
  have g := way_get (f := f) (b := b) hlt
  have e2 : it f ((i + 1) % m) b = f (it f i b) := by
    rw [← it_succ f i b]
    by_cases q : i + 1 = m
    · rw [q, Nat.mod_self, hc]; rfl
    · rw [Nat.mod_eq_of_lt (by omega)]
  rw [e2] at g
  have g2 := (List.getElem?_eq_some_iff.mp g).2
  simp only [Int.toNat_natCast]
  rw [g2]
theorem enum_snd (c : List Int) : (enumT c).map (·.2) = c := by
  unfold enumT
  refine List.ext_getElem? fun i => ?_
  rw [List.getElem?_map, List.getElem?_mapIdx]
  cases c[i]? <;> rfl
theorem enum_mem {c : List Int} {v : Int × Int} (h : v ∈ enumT c) : ∃ i : Nat, v.1 = (i : Int) ∧ c[i]? = some v.2 := by
  obtain ⟨i, hi⟩ := List.getElem?_of_mem h
  unfold enumT at hi
  rw [List.getElem?_mapIdx] at hi
  cases e : c[i]? with
  | none => rw [e] at hi; cases hi
  | some x => rw [e] at hi; cases hi; exact ⟨i, rfl, e⟩
theorem ring_told {ρ κ : Type} {f : Int → Int} {a : Int} {c : List Int} (h : IsRing f a c) (hn : n ≤ 100) (hc : ∀ x ∈ c, 0 ≤ x ∧ x < (n : Int)) (hcl : c.length ≤ 1000) {s : List (Option Int)} (hs : s.length = n) {V : ρ → Prop} {Kb Kc : κ → Prop} :
    Tr (forT (fun (a31 : (Int × Int)) (s32 : (List (Option Int))) => (FD.Ty.thn (R.bind (modM (a31.1 + (1 : Int)) (c.length : Int)) fun x35 => (atM c x35)) fun x36 => FD.Ty.thn (setM s32 a31.2 (some x36)) fun l37 => (.nx l37))) (enumT c) s : TR ρ κ (List (Option Int)))
      (fun s' => s'.length = n ∧ ∀ x, 0 ≤ x → gt s' x = if x ∈ c then some (f x) else gt s x) V Kb Kc := by
  refine Tr.for (fun pre rest s' => pre ++ rest = enumT c ∧ s'.length = n ∧ ∀ x, 0 ≤ x → gt s' x = if x ∈ pre.map (·.2) then some (f x) else gt s x) (fun pre v rest s' ⟨e, e1, e2⟩ => ?_) (fun pre s' ⟨e, e1, e2⟩ => ⟨e1, fun x hx => ?_⟩) _ [] _ ⟨rfl, hs, fun x _ => (if_neg (by simp)).symm⟩
  · obtain ⟨i, ei, ex⟩ := enum_mem (show v ∈ enumT c by rw [← e]; simp)
    obtain ⟨h0, h1⟩ := hc v.2 (List.mem_of_getElem? ex)
    refine Tr.te (v := f v.2) (by rw [ei]; exact next_ok h hcl ex) ?_
    have ev : v.2 = ((v.2.toNat : Nat) : Int) := by omega
    refine Tr.te (v := s'.set v.2.toNat (some (f v.2))) (by have hh := setM_nat (l := s') (n := v.2.toNat) (a := some (f v.2)) (by omega); rw [← ev] at hh; exact hh) ⟨?_, ?_, fun x hx => ?_⟩
    · rw [List.append_assoc]; exact e
    · rw [List.length_set]; exact e1
    · rw [gt_set ⟨h0, by omega⟩ hx, List.map_append, List.map_cons, List.map_nil, e2 x hx]
      by_cases q : x = v.2
      · rw [if_pos q, if_pos (by rw [q]; simp), q]
      · rw [if_neg q]
        by_cases z : x ∈ pre.map (·.2)
        · rw [if_pos z, if_pos (List.mem_append_left _ z)]
        · rw [if_neg z, if_neg fun w => (List.mem_append.mp w).elim z fun w => q (List.mem_singleton.mp w)]
  · rw [List.append_nil] at e
    rw [e2 x hx, e, enum_snd]
end FD.K46


set_option Elab.async false
set_option linter.all false
set_option maxRecDepth 100000
namespace FD.K46
open PySem L2 FD FD.Ty FD.TT
variable {n : Nat}
theorem exch_ok {rs : List (List Int)} {F : Int → Int} (hn : n ≤ 100) (h : ∀ c ∈ rs, (∃ f a, IsRing f a c ∧ ∀ x ∈ c, f x = F x) ∧ c.length ≤ 1000 ∧ ∀ x ∈ c, 0 ≤ x ∧ x < (n : Int)) :
    Ok (t_exchanged_by rs (n : Int)) fun s => s.length = n ∧ ∀ x, 0 ≤ x → gt s x = if x ∈ rs.flatten then some (F x) else none := by
  unfold t_exchanged_by
  refine Ok.fin (Tr.te (v := List.replicate n none) (repM_one (by omega)) ?_)
  refine Tr.s (N' := fun (s : List (Option Int)) => s.length = n ∧ ∀ x, 0 ≤ x → gt s x = if x ∈ rs.flatten then some (F x) else none) ?_ fun s hs => hs
  refine Tr.for (fun pre rest s => pre ++ rest = rs ∧ s.length = n ∧ ∀ x, 0 ≤ x → gt s x = if x ∈ pre.flatten then some (F x) else none) (fun pre c rest s ⟨e, e1, e2⟩ => ?_) (fun pre s ⟨e, e1, e2⟩ => ?_) _ [] _ ⟨rfl, List.length_replicate, fun x hx => ?_⟩
  · obtain ⟨⟨f, a, hr, hfe⟩, hl, hc⟩ := h c (by rw [← e]; simp)
    refine Tr.s (ring_told hr hn hc hl e1) fun s' ⟨z1, z2⟩ => ⟨by rw [List.append_assoc]; exact e, z1, fun x hx => ?_⟩
    rw [z2 x hx, e2 x hx, List.flatten_append, List.flatten_singleton]
    by_cases q : x ∈ c
    · rw [if_pos q, if_pos (List.mem_append_right _ q), hfe x q]
    · rw [if_neg q]
      by_cases z : x ∈ pre.flatten
      · rw [if_pos z, if_pos (List.mem_append_left _ z)]
      · rw [if_neg z, if_neg fun w => (List.mem_append.mp w).elim z q]
  · rw [if_neg (by simp)]
    unfold gt
    rw [List.getElem?_replicate]
    split <;> rfl
  · rw [List.append_nil] at e
    rw [← e]
    exact ⟨e1, e2⟩
end FD.K46


set_option Elab.async false
set_option linter.all false
set_option maxRecDepth 100000
namespace FD.K46
open PySem L2 FD FD.Ty FD.TT
variable {n : Nat} {l : List (List Int)}
def Goes (n : Nat) (l : List (List Int)) (x : Int) (i : Nat) : Prop := x ∈ lefts n l i ∧ Per (tp l (lefts n l i)) x
open Classical in
noncomputable def gotF (n : Nat) (l : List (List Int)) (x : Int) : Int := if h : ∃ i, Goes n l x i then tp l (lefts n l (Classical.choose h)) x else 0
theorem gotF_at (h : Prof n l) {x : Int} {i : Nat} (g : Goes n l x i) : gotF n l x = tp l (lefts n l i) x := by
  unfold gotF
  have hx : ∃ i, Goes n l x i := ⟨i, g⟩
  rw [dif_pos hx]
  have g' := Classical.choose_spec hx
  rw [one_round (run_ok h) g'.1 g'.2 g.1 g.2]
theorem goes_of {x : Int} : ∀ {m : Nat}, x ∈ lefts n l 0 → x ∉ lefts n l m → ∃ i, i < m ∧ Goes n l x i
  | 0, h, h2 => absurd h h2
  | m + 1, h, h2 => by
    by_cases q : x ∈ lefts n l m
    · exact ⟨m, Nat.lt_succ_self m, q, Classical.byContradiction fun np => h2 (lefts_go.mpr ⟨q, np⟩)⟩
    · obtain ⟨i, hi, g⟩ := goes_of h q
      exact ⟨i, Nat.lt_succ_of_lt hi, g⟩
theorem flat_len {α : Type} {k : Nat} : ∀ {rs : List (List α)}, (∀ c ∈ rs, c.length ≤ k) → rs.flatten.length ≤ rs.length * k
  | [], _ => Nat.zero_le _
  | c :: rs, h => by
    have h1 := h c List.mem_cons_self
    have h2 := flat_len fun d hd => h d (List.mem_cons_of_mem _ hd)
    rw [List.flatten_cons, List.length_append, List.length_cons, Nat.succ_mul]
    omega
theorem flat_ge {α : Type} : ∀ {rs : List (List α)}, (∀ c ∈ rs, c ≠ []) → rs.length ≤ rs.flatten.length
  | [], _ => Nat.zero_le _
  | c :: rs, h => by
    have h1 := List.length_pos_iff.mpr (h c List.mem_cons_self)
    have h2 := flat_ge fun d hd => h d (List.mem_cons_of_mem _ hd)
    rw [List.flatten_cons, List.length_append, List.length_cons]
    omega
theorem Row.ne {f : Int → Int} {left : List Int} {R : List (List Int)} (h : Row f left R) : ∀ c ∈ R, c ≠ [] := fun c hc e => by
  obtain ⟨a, _, b, m, hm, e1, _⟩ := (h.mem c).mp hc
  rw [e1] at e
  have := congrArg List.length e
  rw [way_len] at this
  have : m = 0 := this
  omega
theorem Row.flen {f : Int → Int} {left : List Int} {R : List (List Int)} (h : Row f left R) (L : Left n left) : R.flatten.length ≤ n :=
  Nat.le_trans (nd_len h.flat fun x hx => by
    obtain ⟨c, hc, hxc⟩ := List.mem_flatten.mp hx
    exact h.sub c hc x hxc) L.len
theorem trade_ok (hn : n ≤ 100) (h : Prof n l) : Ok (t_trade l) fun s => s.length = n ∧ ∀ x, 0 ≤ x → x < (n : Int) → gt s x = some (gotF n l x) ∧ ∃ i, Goes n l x i := by
  unfold t_trade
  obtain ⟨rows, er, m, hm, ⟨hlen, hmn⟩, hr⟩ := rounds_ok' hn h
  have hrow : ∀ R ∈ rows, ∃ i, Row (tp l (lefts n l i)) (lefts n l i) R := fun R hR => by
    obtain ⟨i, hi⟩ := List.getElem?_of_mem hR
    exact ⟨i, (hr i R hi).1⟩
  have hfl : rows.flatten.length ≤ 100000 := by
    have h1 := flat_len (k := n) (rs := rows) fun R hR => by
      obtain ⟨i, q⟩ := hrow R hR
      exact Nat.le_trans (flat_ge q.ne) (q.flen (lefts_ok i))
    have h2 : rows.length * n ≤ 100 * 100 := Nat.mul_le_mul (by omega) hn
    omega
  refine Ok.fin (Tr.te (v := rows.flatten) (by rw [er, bind_ok]; exact gone_ok hfl) ?_)
  rw [h.len]
  refine Tr.t (exch_ok (F := gotF n l) hn fun c hc => ?_) fun s ⟨z1, z2⟩ => ⟨z1, fun x h0 h1 => ?_⟩
  · obtain ⟨R, hR, hcR⟩ := List.mem_flatten.mp hc
    obtain ⟨i, q⟩ := hrow R hR
    obtain ⟨a, ha, z⟩ := (q.mem c).mp hcR
    refine ⟨⟨_, a, z, fun x hx => (gotF_at h ⟨q.sub c hcR x hx, z.per hx⟩).symm⟩, ?_, fun x hx => (lefts_ok i).sub x (q.sub c hcR x hx)⟩
    have hnd : c.Nodup := by
      obtain ⟨_, _, _, _, _, nd, _⟩ := z
      exact nd
    have := nodup_len hnd fun x hx => (lefts_ok i).sub x (q.sub c hcR x hx)
    omega
  · obtain ⟨i, hi, g⟩ := goes_of (n := n) (l := l) (m := m) (x := x) (nums_mem.mpr ⟨h0, h1⟩) (by rw [hm]; simp)
    refine ⟨?_, i, g⟩
    rw [z2 x h0, if_pos]
    have hi' : i < rows.length := by omega
    have q := (hr i rows[i] (List.getElem?_eq_getElem hi')).1
    have := (q.gone (fun a ha => (tp_ok h (lefts_ok i) ha).1) g.1).mpr g.2
    obtain ⟨c, hc, hxc⟩ := List.mem_flatten.mp this
    exact List.mem_flatten.mpr ⟨c, List.mem_flatten.mpr ⟨_, List.getElem_mem hi', hc⟩, hxc⟩
end FD.K46


set_option Elab.async false
set_option linter.all false
set_option maxRecDepth 100000
namespace FD.K46
open PySem L2 FD FD.Ty FD.TT
variable {n : Nat} {l : List (List Int)}
def fstIn (l : List (List Int)) (taken : List Int) (x : Int) : Int := ((lg l x).filter fun y => !memB y taken).headD 0
def turnF (l : List (List Int)) : List Int → List Int → Int → Option Int
  | _, [], _ => none
  | taken, x :: o, y => if y = x then some (fstIn l taken x) else turnF l (taken ++ [fstIn l taken x]) o y
theorem first_ok (hn : n ≤ 100) (h : Prof n l) {taken : List Int} {x : Int} (hx : 0 ≤ x ∧ x < (n : Int)) (ht : taken.length < n) : ∃ z, (lg l x).filter (fun y => !memB y taken) ≠ [] ∧ z = fstIn l taken x ∧ z ∉ taken ∧ z ∈ lg l x ∧ ∀ y ∈ lg l x, y ∉ taken → (lg l x).idxOf z ≤ (lg l x).idxOf y := by
  have hp := h.all _ (lg_mem hx.1 (by rw [h.len]; exact hx.2))
  have hex : ∃ y ∈ lg l x, y ∉ taken := by
    refine Classical.byContradiction fun hc => ?_
    have := nd_len (l := lg l x) (m := taken) (hp.nodup_iff.mpr (nums_nodup n)) fun y hy => Classical.byContradiction fun q => hc ⟨y, hy, q⟩
    rw [hp.length_eq, nums_len] at this
    omega
  obtain ⟨y, hy, hyt⟩ := hex
  have hp' : ∀ y, y ∉ taken → (!memB y taken) = true := fun y q => by rw [(memB_false _ _).mpr q]; rfl
  obtain ⟨h1, h2, h3⟩ := head_first hy (p := fun y => !memB y taken) (hp' y hyt)
  have h2' : memB (fstIn l taken x) taken = false := by
    have : (!memB (fstIn l taken x) taken) = true := h2
    simpa using this
  refine ⟨fstIn l taken x, List.ne_nil_of_mem (List.mem_filter.mpr ⟨hy, hp' y hyt⟩), rfl, (memB_false _ _).mp h2', h1, fun y hy q => (head_first hy (p := fun y => !memB y taken) (hp' y q)).2.2⟩
theorem in_turn_ok (hn : n ≤ 100) (h : Prof n l) {o : List Int} (ho : o.Perm (nums n)) : Ok (t_in_turn l o) fun s => s.length = n ∧ ∀ x, 0 ≤ x → x < (n : Int) → gt s x = turnF l [] o x := by
  have hnd := ho.nodup_iff.mpr (nums_nodup n)
  have hlen : o.length = n := by rw [ho.length_eq, nums_len]
  unfold t_in_turn
  rw [h.len]
  refine Ok.fin (Tr.te (v := List.replicate n none) (repM_one (by omega)) ?_)
  refine Tr.s (N' := fun (s : List (Option Int) × List Int) => s.1.length = n ∧ ∀ x, 0 ≤ x → gt s.1 x = turnF l [] o x) ?_ fun s hs => ⟨hs.1, fun x h0 _ => hs.2 x h0⟩
  refine Tr.for (fun pre rest s => pre ++ rest = o ∧ s.1.length = n ∧ s.2.length = pre.length ∧ ∀ x, 0 ≤ x → turnF l [] o x = if x ∈ rest then turnF l s.2 rest x else gt s.1 x) (fun pre x rest s ⟨e, e1, e2, e3⟩ => ?_) (fun pre s ⟨e, e1, e2, e3⟩ => ⟨e1, fun x h0 => by rw [e3 x h0, if_neg (by simp)]⟩) _ [] _ ⟨rfl, List.length_replicate, rfl, fun x h0 => ?_⟩
  · by_cases q : x ∈ o
    · rw [if_pos q]
    · rw [if_neg q]
      have : ∀ (o t : List Int), x ∉ o → turnF l t o x = none := by
        intro o
        induction o with
        | nil => intro t _; rfl
        | cons a o ih =>
          intro t hx
          show (if x = a then _ else _) = _
          rw [if_neg (fun (w : x = a) => hx (by rw [w]; exact List.mem_cons_self))]
          exact ih _ fun w => hx (List.mem_cons_of_mem _ w)
      rw [this o [] q]
      unfold gt
      rw [List.getElem?_replicate]
      split <;> rfl
  · have hxo : x ∈ o := by rw [← e]; simp
    have hx := nums_mem.mp (ho.mem_iff.mp hxo)
    have hpl : pre.length + (rest.length + 1) = n := by
      have := congrArg List.length e
      rw [List.length_append, List.length_cons] at this
      omega
    have hp := h.all _ (lg_mem hx.1 (by rw [h.len]; exact hx.2))
    have hll : (lg l x).length = n := by rw [hp.length_eq, nums_len]
    obtain ⟨z, z0, z1, z2, z3, z4⟩ := first_ok hn h (taken := s.2) hx (by omega)
    refine Tr.te (v := (lg l x).filter fun y => !memB y s.2) ?_ ?_
    · rw [lg_at hx.1 (by rw [h.len]; exact hx.2), bind_ok, sz (by omega), grd_true, lcM_ok (q := fun y => !memB y s.2) (g := fun y => y) fun y _ => ⟨rfl, fun _ => rfl⟩, List.map_id']
    refine Tr.s (N' := fun (v : List (Option Int) × List Int) => v = (s.1.set x.toNat (some z), s.2 ++ [z])) ?_ fun v hv => ?_
    · have hb : (!decide (((lg l x).filter fun y => !memB y s.2) = ([] : List Int))) = true := by rw [decide_eq_false z0]; rfl
      rw [hb]
      have ev : x = ((x.toNat : Nat) : Int) := by omega
      refine Tr.te (v := z) (by rw [hd_at z0, z1]; rfl) (Tr.te (v := s.1.set x.toNat (some z)) (by have hh := setM_nat (l := s.1) (n := x.toNat) (a := some z) (by omega); rw [← ev] at hh; exact hh) ?_)
      exact Tr.te (v := s.2 ++ [z]) (by rw [hd_at z0, bind_ok, show ((lg l x).filter fun y => !memB y s.2).headD 0 = z from z1.symm]; exact appM_ok (by omega)) rfl
    · subst hv
      have hxr : x ∉ rest := by
        rw [← e, List.nodup_append] at hnd
        exact (List.nodup_cons.mp hnd.2.1).1
      refine ⟨by rw [List.append_assoc]; exact e, by rw [List.length_set]; exact e1, by rw [List.length_append, List.length_append, e2]; rfl, fun y h0 => ?_⟩
      rw [e3 y h0]
      show _ = if y ∈ rest then turnF l (s.2 ++ [z]) rest y else gt (s.1.set x.toNat (some z)) y
      rw [gt_set ⟨hx.1, by omega⟩ h0]
      by_cases q : y = x
      · subst q
        rw [if_pos List.mem_cons_self, if_neg hxr, if_pos rfl]
        show (if y = y then some (fstIn l s.2 y) else _) = _
        rw [if_pos rfl, z1]
      · by_cases r : y ∈ rest
        · rw [if_pos (List.mem_cons_of_mem _ r), if_pos r]
          show (if y = x then _ else turnF l (s.2 ++ [fstIn l s.2 x]) rest y) = _
          rw [if_neg q, z1]
        · rw [if_neg fun w => (List.mem_cons.mp w).elim q r, if_neg r, if_neg q]
end FD.K46


set_option Elab.async false
set_option linter.all false
set_option maxRecDepth 100000
namespace FD.K46
open PySem L2 FD FD.Ty FD.TT
variable {n : Nat} {l l' : List (List Int)} {k : Int}
theorem turn_lie (hn : n ≤ 100) (h : Prof n l) (h' : Prof n l') (he : ∀ x, x ≠ k → 0 ≤ x → lg l' x = lg l x) (hk : 0 ≤ k ∧ k < (n : Int)) : ∀ (o taken : List Int), k ∈ o → (∀ x ∈ o, 0 ≤ x) → taken.length + o.length ≤ n →
    ∃ z z', turnF l taken o k = some z ∧ turnF l' taken o k = some z' ∧ z ∈ lg l k ∧ z' ∈ lg l k ∧ (lg l k).idxOf z ≤ (lg l k).idxOf z'
  | [], _, hm, _, _ => by cases hm
  | x :: o, taken, hm, h0, hl => by
    rw [List.length_cons] at hl
    by_cases e : k = x
    · subst e
      obtain ⟨z, _, z1, z2, z3, z4⟩ := first_ok hn h (taken := taken) hk (by omega)
      obtain ⟨z', _, w1, w2, w3, _⟩ := first_ok hn h' (taken := taken) hk (by omega)
      have hp := h.all _ (lg_mem hk.1 (by rw [h.len]; exact hk.2))
      have hp' := h'.all _ (lg_mem hk.1 (by rw [h'.len]; exact hk.2))
      have hin : z' ∈ lg l k := hp.mem_iff.mpr (hp'.mem_iff.mp w3)
      refine ⟨z, z', ?_, ?_, z3, hin, z4 z' hin w2⟩
      · show (if k = k then _ else _) = _
        rw [if_pos rfl, z1]
      · show (if k = k then _ else _) = _
        rw [if_pos rfl, w1]
    · obtain ⟨z, z', a, b, c⟩ := turn_lie hn h h' he hk o (taken ++ [fstIn l taken x]) ((List.mem_cons.mp hm).resolve_left e) (fun y hy => h0 y (List.mem_cons_of_mem _ hy)) (by rw [List.length_append]; show taken.length + 1 + o.length ≤ n; omega)
      refine ⟨z, z', ?_, ?_, c⟩
      · show (if k = x then _ else _) = _
        rw [if_neg e]; exact a
      · show (if k = x then _ else turnF l' (taken ++ [fstIn l' taken x]) o k) = _
        have : fstIn l' taken x = fstIn l taken x := by
          unfold fstIn
          rw [he x (Ne.symm e) (h0 x List.mem_cons_self)]
        rw [if_neg e, this]; exact b
theorem trade_lie (h : Prof n l) (h' : Prof n l') (he : ∀ x, x ≠ k → 0 ≤ x → lg l' x = lg l x) {i j : Nat} (g : Goes n l k i) (g' : Goes n l' k j) : (lg l k).idxOf (gotF n l k) ≤ (lg l k).idxOf (gotF n l' k) := by
  rw [gotF_at h g, gotF_at h' g']
  -- outside of 0 .. n - 1 the ranks do not matter: the runs are told with ranks of l there
  exact no_lie (k := k) (r := fun a x => (lg l a).idxOf x) (r' := fun a x => if a = k then (lg l' a).idxOf x else (lg l a).idxOf x) (S := fun i a => a ∈ lefts n l i) (S' := fun i a => a ∈ lefts n l' i) (f := fun i => tp l (lefts n l i)) (f' := fun i => tp l' (lefts n l' i)) (run_ok h)
    ⟨fun i a ha => by
      have := (run_ok h').top i a ha
      refine ⟨this.1, fun y hy => ?_⟩
      by_cases e : a = k
      · simp only [if_pos e]; exact this.2 y hy
      · simp only [if_neg e]
        have z := this.2 y hy
        rw [he a e ((lefts_ok i).sub a ha).1] at z
        exact z, fun i a => lefts_go⟩
    (rank_inj h) (fun a => Iff.rfl) (fun a e => by funext x; exact if_neg e) g.1 g.2 g'.1 g'.2
end FD.K46


set_option Elab.async false
set_option linter.all false
set_option maxRecDepth 100000
namespace FD.K46
open PySem L2 FD FD.Ty FD.TT
variable {n : Nat} {l l' : List (List Int)} {k : Int}
theorem idx_app {y : Int} {b : List Int} : ∀ {a : List Int}, y ∈ a → (a ++ b).idxOf y = a.idxOf y
  | [], h => by cases h
  | x :: a, h => by
    rw [List.cons_append, List.idxOf_cons, List.idxOf_cons]
    by_cases e : x = y
    · rw [e, beq_self_eq_true]; rfl
    · rw [show (x == y) = false from beq_eq_false_iff_ne.mpr e, idx_app ((List.mem_cons.mp h).resolve_left (Ne.symm e))]
theorem idx_le {y : Int} : ∀ {q : List Int} {i : Nat}, q[i]? = some y → q.idxOf y ≤ i
  | [], _, h => by cases h
  | x :: q, 0, h => by
    cases h
    rw [List.idxOf_cons_self]; exact Nat.le_refl _
  | x :: q, i + 1, h => by
    have ih := idx_le (q := q) (i := i) (by simpa using h)
    rw [List.idxOf_cons]
    cases (x == y)
    · show q.idxOf y + 1 ≤ i + 1; omega
    · exact Nat.zero_le _
theorem run_lie (h' : Prof n l') (he : ∀ x, x ≠ k → 0 ≤ x → lg l' x = lg l x) : Run (fun a x => if a = k then (lg l' a).idxOf x else (lg l a).idxOf x) (fun i a => a ∈ lefts n l' i) (fun i => tp l' (lefts n l' i)) :=
  ⟨fun i a ha => by
    have := (run_ok h').top i a ha
    refine ⟨this.1, fun y hy => ?_⟩
    by_cases e : a = k
    · simp only [if_pos e]; exact this.2 y hy
    · simp only [if_neg e]
      have z := this.2 y hy
      rw [he a e ((lefts_ok i).sub a ha).1] at z
      exact z, fun i a => lefts_go⟩
theorem trade_same (h : Prof n l) (h' : Prof n l') (he : ∀ x, x ≠ k → 0 ≤ x → lg l' x = lg l x) {i : Nat} (g : Goes n l k i)
    (hp : (lg l' k).take ((lg l k).idxOf (gotF n l k) + 1) = (lg l k).take ((lg l k).idxOf (gotF n l k) + 1)) {x : Int} {j : Nat} (gx : Goes n l x j) : Goes n l' x j ∧ gotF n l' x = gotF n l x := by
  have idx_take : ∀ {q q' : List Int} {m : Nat} {y : Int}, q'.take m = q.take m → q.idxOf y < m → y ∈ q → q'.idxOf y = q.idxOf y := by
    intro q q' m y e hlt hy
    have e1 : (q.take m).idxOf y = q.idxOf y := by
      have hy' : y ∈ q.take m := by
        have := idx_get hy
        exact List.mem_iff_getElem?.mpr ⟨q.idxOf y, by rw [List.getElem?_take, if_pos hlt]; exact this⟩
      have := idx_app (b := q.drop m) hy'
      rw [List.take_append_drop] at this
      exact this.symm
    have hy2 : y ∈ q'.take m := by
      rw [e]
      exact List.mem_iff_getElem?.mpr ⟨q.idxOf y, by rw [List.getElem?_take, if_pos hlt]; exact idx_get hy⟩
    have e2 := idx_app (b := q'.drop m) hy2
    rw [List.take_append_drop] at e2
    rw [e2, e, e1]
  have idx_far : ∀ {q q' : List Int} {m : Nat} {y : Int}, q'.take m = q.take m → m ≤ q.idxOf y → m ≤ q'.length → m ≤ q'.idxOf y := by
    intro q q' m y e hlt hl
    refine Nat.le_of_not_lt fun hc => ?_
    have hy : y ∈ q' := List.idxOf_lt_length_iff.mp (Nat.lt_of_lt_of_le hc hl)
    have g := idx_get hy
    have g2 : (q.take m)[q'.idxOf y]? = some y := by rw [← e, List.getElem?_take, if_pos hc]; exact g
    rw [List.getElem?_take, if_pos hc] at g2
    have := idx_le g2
    omega
  obtain ⟨h0, h1⟩ := (lefts_ok i).sub k g.1
  have hpk := h.all _ (lg_mem h0 (by rw [h.len]; exact h1))
  have hpk' := h'.all _ (lg_mem h0 (by rw [h'.len]; exact h1))
  have eg := gotF_at h g
  have hgot : gotF n l k ∈ lg l k := hpk.mem_iff.mpr (nums_mem.mpr ((lefts_ok i).sub _ (by rw [eg]; exact (tp_ok h (lefts_ok i) g.1).1)))
  have hm : (lg l k).idxOf (gotF n l k) < n := by
    have := List.idxOf_lt_length_of_mem hgot
    rwa [hpk.length_eq, nums_len] at this
  have S := same_run (k := k) (r' := fun a x => if a = k then (lg l' a).idxOf x else (lg l a).idxOf x) (run_ok h) (run_lie h' he) (rank_inj h) (fun a => Iff.rfl) (fun a e => by funext x; exact if_neg e) g.1 g.2
    (fun y hy hle => by
      show (if k = k then _ else _) = _
      rw [if_pos rfl]
      rw [← eg] at hle
      exact idx_take hp (Nat.lt_succ_of_le hle) (hpk.mem_iff.mpr hy))
    (fun y hy hlt => by
      show _ < (if k = k then _ else _)
      rw [if_pos rfl]
      rw [← eg] at hlt ⊢
      exact idx_far hp hlt (by rw [hpk'.length_eq, nums_len]; omega))
  obtain ⟨s1, s2⟩ := S j
  have gx' : Goes n l' x j := ⟨(s1 x).mp gx.1, per_agree (S := fun a => a ∈ lefts n l j) (fun m => (run_ok h).stay gx.1 m) s2 gx.2⟩
  exact ⟨gx', by rw [gotF_at h gx, gotF_at h' gx', s2 x gx.1]⟩
end FD.K46


set_option Elab.async false
set_option linter.all false
set_option maxRecDepth 100000
namespace FD.K46
open PySem L2 FD FD.Ty FD.TT
def fc : Nat → Nat
  | 0 => 1
  | m + 1 => (m + 1) * fc m
theorem fc_le : ∀ m, m ≤ 8 → fc m ≤ 40320 := by decide
theorem ways_ok : ∀ (r : Nat) (p : List Int), p.length ≤ r → p.length ≤ 8 → Ok (t_all_ways (r + 1) p) fun ws => ws.length = fc p.length ∧ ∀ w ∈ ws, w.Perm p := by
  intro r
  induction r with
  | zero =>
    intro p h _
    obtain rfl := List.length_eq_zero_iff.mp (Nat.le_zero.mp h)
    unfold t_all_ways
    refine Ok.fin ?_
    show Tr (.rt [([] : List Int)]) _ _ _ _
    exact ⟨rfl, fun w hw => by rw [List.mem_singleton.mp hw]⟩
  | succ r ih =>
    intro p h h8
    unfold t_all_ways
    refine Ok.fin ?_
    by_cases he : p = []
    · subst he
      show Tr (.rt [([] : List Int)]) _ _ _ _
      exact ⟨rfl, fun w hw => by rw [List.mem_singleton.mp hw]⟩
    · have hpos := List.length_pos_iff.mpr he
      rw [decide_eq_false (show ¬ ((p.length : Int) = 0) by omega), if_neg Bool.false_ne_true]
      have hfc : p.length * fc (p.length - 1) = fc p.length := by
        obtain ⟨m, hm⟩ : ∃ m, p.length = m + 1 := ⟨p.length - 1, by omega⟩
        rw [hm]; rfl
      have hb := fc_le p.length h8
      refine Tr.s (N' := fun (s : List (List Int)) => s.length = fc p.length ∧ ∀ w ∈ s, w.Perm p) ?_ fun s hs => hs
      refine Tr.for (fun pre rest s => pre ++ rest = enumT p ∧ s.length = pre.length * fc (p.length - 1) ∧ ∀ w ∈ s, w.Perm p) (fun pre v rest s ⟨e, e1, e2⟩ => ?_) (fun pre s ⟨e, e1, e2⟩ => ?_) _ [] _ ⟨rfl, (Nat.zero_mul _).symm, fun w hw => by cases hw⟩
      · obtain ⟨i, ei, ex⟩ := enum_mem (show v ∈ enumT p by rw [← e]; simp)
        have hlen : pre.length + (rest.length + 1) = p.length := by
          have := congrArg List.length e
          rw [List.length_append, List.length_cons] at this
          have h2 := congrArg List.length (enum_snd p)
          rw [List.length_map] at h2
          omega
        have hi := (List.getElem?_eq_some_iff.mp ex).1
        have hq : (cutG p none (some v.1)) ++ (cutG p (some (v.1 + 1)) none) = p.take i ++ p.drop (i + 1) := by
          rw [ei, cutG_none, show ((i : Int) + 1) = ((i + 1 : Nat) : Int) from rfl, cutG_from]
        have hql : (p.take i ++ p.drop (i + 1)).length = p.length - 1 := by
          rw [List.length_append, List.length_take, List.length_drop]; omega
        have hpp : (v.2 :: (p.take i ++ p.drop (i + 1))).Perm p := by
          have e3 : p = p.take i ++ v.2 :: p.drop (i + 1) := by
            have hv : p[i] = v.2 := (List.getElem?_eq_some_iff.mp ex).2
            rw [← hv, List.getElem_cons_drop, List.take_append_drop]
          conv => rhs; rw [e3]
          exact List.perm_middle.symm
        obtain ⟨ws, ew, w1, w2⟩ := ih (p.take i ++ p.drop (i + 1)) (by omega) (by omega)
        have hbw : ws.length ≤ 40320 := by rw [w1, hql]; exact fc_le _ (by omega)
        refine Tr.te (v := ws.map fun w => v.2 :: w) ?_ ?_
        · have hs := congrArg List.length hq
          rw [List.length_append, hql] at hs
          rw [sz (by omega), grd_true, bind_ok, hq, ew, bind_ok, sz (by omega), grd_true, lcM_ok (q := fun _ => true) (g := fun w => v.2 :: w) fun w hw => ⟨rfl, fun _ => by
            have := (w2 w hw).length_eq
            rw [sz (by rw [List.length_singleton]; omega), grd_true]; rfl⟩, List.filter_eq_self.mpr fun _ _ => rfl]
        · have hmul : pre.length * fc (p.length - 1) ≤ fc p.length := by
            rw [← hfc]; exact Nat.mul_le_mul_right _ (by omega)
          refine Tr.te (v := s ++ ws.map fun w => v.2 :: w) (extM_ok (by rw [List.length_map, e1]; omega)) ⟨by rw [List.append_assoc]; exact e, ?_, fun w hw => ?_⟩
          · rw [List.length_append, List.length_map, e1, w1, hql, List.length_append, List.length_singleton, Nat.succ_mul]
          · rcases List.mem_append.mp hw with hw | hw
            · exact e2 w hw
            · obtain ⟨w', hw', rfl⟩ := List.mem_map.mp hw
              exact ((w2 w' hw').cons _).trans hpp
      · rw [List.append_nil] at e
        refine ⟨?_, e2⟩
        have h2 := congrArg List.length (enum_snd p)
        rw [List.length_map, ← e] at h2
        rw [e1, h2, hfc]
end FD.K46


set_option Elab.async false
set_option linter.all false
set_option maxRecDepth 100000
namespace FD.K46
open PySem L2 FD FD.Ty FD.TT
variable {n : Nat} {l : List (List Int)} {k : Int}
theorem row_len {i : Nat} {R : List (List Int)} (h : Prof n l) (q : Row (tp l (lefts n l i)) (lefts n l i) R) : R.flatten.length + (lefts n l (i + 1)).length = (lefts n l i).length := by
  have L := lefts_ok (n := n) (l := l) i
  have hf : ∀ a ∈ lefts n l i, tp l (lefts n l i) a ∈ lefts n l i := fun a ha => (tp_ok h L ha).1
  have hsub : ∀ x ∈ R.flatten, x ∈ lefts n l i := fun x hx => by
    obtain ⟨c, hc, hxc⟩ := List.mem_flatten.mp hx
    exact q.sub c hc x hxc
  have L' := lefts_ok (n := n) (l := l) (i + 1)
  have nd : (R.flatten ++ lefts n l (i + 1)).Nodup := by
    rw [List.nodup_append]
    refine ⟨q.flat, L'.nd, fun x hx y hy e => ?_⟩
    subst e
    exact (lefts_go.mp hy).2 ((q.gone hf (hsub x hx)).mp hx)
  have h1 := nd_len (m := lefts n l i) nd fun x hx => (List.mem_append.mp hx).elim (hsub x) fun hx => (lefts_go.mp hx).1
  have h2 := nd_len (m := R.flatten ++ lefts n l (i + 1)) L.nd fun x hx => by
    by_cases p : Per (tp l (lefts n l i)) x
    · exact List.mem_append_left _ ((q.gone hf hx).mpr p)
    · exact List.mem_append_right _ (lefts_go.mpr ⟨hx, p⟩)
  rw [List.length_append] at h1 h2
  omega
theorem rows_len (h : Prof n l) : ∀ (rows : List (List (List Int))) (j : Nat), (∀ i R, rows[i]? = some R → Row (tp l (lefts n l (j + i))) (lefts n l (j + i)) R) → rows.flatten.flatten.length + (lefts n l (j + rows.length)).length = (lefts n l j).length
  | [], j, _ => by show 0 + _ = _; rw [Nat.zero_add]; rfl
  | R :: rows, j, hr => by
    have h1 : R.flatten.length + (lefts n l (j + 1)).length = (lefts n l j).length := row_len h (hr 0 R rfl)
    have h2 := rows_len h rows (j + 1) fun i Q e => by
      have := hr (i + 1) Q e
      rw [show j + (i + 1) = j + 1 + i by omega] at this
      exact this
    rw [List.flatten_cons, List.flatten_append, List.length_append, List.length_cons, show j + (rows.length + 1) = j + 1 + rows.length by omega]
    omega
theorem sum_len : ∀ (rs : List (List Int)), ((rs.map fun c => (c.length : Int)).sum) = (rs.flatten.length : Int)
  | [] => rfl
  | c :: rs => by
    rw [List.map_cons, List.sum_cons, sum_len rs, List.flatten_cons, List.length_append]
    omega
theorem flat_ok {rs : List (List Int)} (h : rs.flatten.length ≤ 100000) : t_law_flat rs = .ok rs.flatten := by
  unfold t_law_flat
  refine Ok.eq (Ok.fin (Tr.s (N' := fun s => s = rs.flatten) ?_ fun s hs => hs))
  refine Tr.for (fun pre rest s => pre ++ rest = rs ∧ s = pre.flatten) (fun pre a rest s ⟨e, e1⟩ => ?_) (fun pre s ⟨e, e1⟩ => by rw [e1, ← e, List.append_nil]) _ [] _ ⟨rfl, rfl⟩
  have hl : s.length + a.length ≤ rs.flatten.length := by
    rw [e1, ← e, List.flatten_append, List.flatten_cons, List.length_append, List.length_append]
    omega
  refine Tr.te (v := s ++ a) (by rw [sz (by omega), grd_true]) ⟨by rw [List.append_assoc]; exact e, ?_⟩
  rw [e1, List.flatten_append, List.flatten_cons, List.flatten_nil, List.append_nil]
theorem flat_map_len (rows : List (List (List Int))) : ((rows.map fun R => R.map fun c => (c.length : Int)).flatten).length = rows.flatten.length := by
  induction rows with
  | nil => rfl
  | cons R rows ih => rw [List.map_cons, List.flatten_cons, List.flatten_cons, List.length_append, List.length_append, List.length_map, ih]
theorem last_ok (hn : n ≤ 100) (h1 : 1 ≤ n) (h : Prof n l) : (R.bind (R.bind (R.bind (t_rounds l) fun x328 => (atM x328 (0 : Int))) fun x329 => R.ok (decide (x329 = ([] : List (List Int))))) fun b => grd b (R.ok true) (R.bind (R.bind (R.bind (R.bind (t_rounds l) fun l332 => grd (szOk l332.length) (lcM (fun a330 => (R.ok true)) (fun a330 => (grd (szOk a330.length) (R.ok (a330.map fun a331 => (a331.length : Int))) R.stk)) l332) R.stk) fun x333 => (t_law_flat x333)) fun x334 => (R.ok (x334.sum))) fun x335 => R.ok (!decide (x335 = (n : Int))))) = (.ok false : M Bool) := by
  obtain ⟨rows, er, m, hm, ⟨hlen, hmn⟩, hr⟩ := rounds_ok' hn h
  have hm0 : 0 < m := by
    refine Nat.pos_of_ne_zero fun e => ?_
    rw [e] at hm
    have : (nums n).length = 0 := by rw [show nums n = lefts n l 0 from rfl, hm]; rfl
    rw [nums_len] at this
    omega
  have hrow : ∀ R ∈ rows, ∃ i, Row (tp l (lefts n l i)) (lefts n l i) R := fun R hR => by
    obtain ⟨i, hi⟩ := List.getElem?_of_mem hR
    exact ⟨i, (hr i R hi).1⟩
  have hRl : ∀ R ∈ rows, R.length ≤ n := fun R hR => by
    obtain ⟨i, q⟩ := hrow R hR
    exact Nat.le_trans (flat_ge q.ne) (q.flen (lefts_ok i))
  have hfl : rows.flatten.length ≤ 100000 := by
    have h1 := flat_len (k := n) (rs := rows) hRl
    have h2 : rows.length * n ≤ 100 * 100 := Nat.mul_le_mul (by omega) hn
    omega
  cases rows with
  | nil => exact absurd hlen (by show ¬ (0 = m); omega)
  | cons R rows =>
    have hne : R ≠ [] := by
      obtain ⟨q, hx⟩ := hr 0 R rfl
      obtain ⟨a, ha⟩ := List.exists_mem_of_ne_nil _ hx
      obtain ⟨c, hc, _⟩ := q.ex a ha
      exact List.ne_nil_of_mem hc
    have hsum := rows_len h (R :: rows) 0 fun i Q e => by
      rw [Nat.zero_add]; exact (hr i Q e).1
    rw [Nat.zero_add, hlen, hm] at hsum
    have hn' : (lefts n l 0).length = n := nums_len n
    rw [hn'] at hsum
    have hsum : (R :: rows).flatten.flatten.length = n := hsum
    rw [er, bind_ok, bind_ok, atM_zero, bind_ok, decide_eq_false hne, bind_ok, grd_false, sz (by omega), grd_true, lcM_map (g := fun R => R.map fun c => (c.length : Int)) fun Q hQ => by
      have := hRl Q hQ
      rw [sz (by omega), grd_true], bind_ok, flat_ok (by rw [flat_map_len]; omega), bind_ok, bind_ok]
    have e2 : ((((R :: rows).map fun R => R.map fun c => (c.length : Int)).flatten).sum) = (n : Int) := by
      rw [← List.map_flatten, sum_len, hsum]
    rw [e2, decide_eq_true rfl]; rfl
theorem lie_prof (h : Prof n l) {w : List Int} (hw : w.Perm (nums n)) : Prof n (l.set k.toNat w) :=
  ⟨by rw [List.length_set]; exact h.len, fun q hq => (List.mem_or_eq_of_mem_set hq).elim (h.all q) fun e => e ▸ hw⟩
theorem lie_lg {w : List Int} (hk : 0 ≤ k) (x : Int) (ne : x ≠ k) (h0 : 0 ≤ x) : lg (l.set k.toNat w) x = lg l x := by
  unfold lg
  rw [List.getElem?_set_ne (by omega)]
theorem lie_lg_k {w : List Int} (hk : 0 ≤ k ∧ k < l.length) : lg (l.set k.toNat w) k = w := by
  unfold lg
  rw [List.getElem?_set_self (by omega)]; rfl
theorem lie_snd {w : List Int} (hk : 0 ≤ k ∧ k < l.length) : (((cutG l none (some k)).map (fun v => (true, v)) ++ ([w] : List (List Int)).map (fun v => (false, v)) ++ (cutG l (some (k + 1)) none).map (fun v => (true, v))).map fun v => v.2) = l.set k.toNat w := by
  obtain ⟨i, rfl⟩ : ∃ i : Nat, k = (i : Int) := ⟨k.toNat, by omega⟩
  rw [cutG_none, show ((i : Int) + 1) = ((i + 1 : Nat) : Int) from rfl, cutG_from, List.map_append, List.map_append, List.map_map, List.map_map, List.map_map]
  have e : ((fun (v : Bool × List Int) => v.2) ∘ fun v => (true, v)) = id := rfl
  have e' : ((fun (v : Bool × List Int) => v.2) ∘ fun v => (false, v)) = id := rfl
  rw [e, e', List.map_id, List.map_id, List.map_id, List.set_eq_take_append_cons_drop, if_pos (by show (i : Int).toNat < _; omega)]
  simp
theorem gt_at {s : List (Option Int)} (h0 : 0 ≤ k) (h : k < s.length) : (atM s k : M (Option Int)) = .ok (gt s k) := by
  rw [atM_int h0 h]
  unfold gt
  rw [List.getElem?_eq_getElem (by omega)]; rfl
theorem gt_ext {s s' : List (Option Int)} (h : s.length = n) (h' : s'.length = n) (he : ∀ x : Int, 0 ≤ x → x < (n : Int) → gt s x = gt s' x) : s = s' := by
  refine List.ext_getElem (by omega) fun i h1 h2 => ?_
  have := he (i : Int) (by omega) (by omega)
  unfold gt at this
  rw [Int.toNat_natCast, List.getElem?_eq_getElem h1, List.getElem?_eq_getElem h2] at this
  exact this
theorem head_le (h : Prof n l) {a b : Int} (ha : 0 ≤ a ∧ a < (n : Int)) (hb : (lg l a).headD 0 = b) (hn1 : 1 ≤ n) : b ∈ nums n ∧ ∀ y ∈ nums n, (lg l a).idxOf b ≤ (lg l a).idxOf y := by
  have hp := h.all _ (lg_mem ha.1 (by rw [h.len]; exact ha.2))
  have hl : (lg l a).length = n := by rw [hp.length_eq, nums_len]
  cases hq : lg l a with
  | nil => rw [hq] at hl; exact absurd hl (by show ¬ (0 = n); omega)
  | cons x q =>
    rw [hq] at hb
    have hb : x = b := hb
    subst hb
    refine ⟨hp.mem_iff.mp (by rw [hq]; exact List.mem_cons_self), fun y _ => ?_⟩
    rw [List.idxOf_cons_self]; exact Nat.zero_le _
end FD.K46


set_option Elab.async false
set_option linter.all false
set_option maxRecDepth 100000
namespace FD.K46
open PySem L2 FD FD.Ty FD.TT
theorem cut_len {α : Type} (l : List α) (a b : Option Int) : (cutG l a b).length ≤ l.length := by
  unfold cutG
  rw [List.length_take, List.length_drop]; omega
theorem pr_len {n : Nat} {l : List (List Int)} (h : Prof n l) {a : Int} (ha : 0 ≤ a ∧ a < (n : Int)) : (lg l a).length = n := by
  rw [(h.all _ (lg_mem ha.1 (by rw [h.len]; exact ha.2))).length_eq, nums_len]
theorem pr_mem {n : Nat} {l : List (List Int)} (h : Prof n l) {a x : Int} (ha : 0 ≤ a ∧ a < (n : Int)) (hx : 0 ≤ x ∧ x < (n : Int)) : x ∈ lg l a :=
  (h.all _ (lg_mem ha.1 (by rw [h.len]; exact ha.2))).mem_iff.mpr (nums_mem.mpr hx)
theorem got_in {n : Nat} {l : List (List Int)} (h : Prof n l) {a : Int} {i : Nat} (g : Goes n l a i) : 0 ≤ gotF n l a ∧ gotF n l a < (n : Int) := by
  rw [gotF_at h g]
  exact (lefts_ok i).sub _ (tp_ok h (lefts_ok i) g.1).1
theorem getM_some {α : Type} (a : α) : (getM (some a) : M α) = .ok a := rfl
theorem law_ok (ns : List Int) (hns : ns.length ≤ 63) : t_law ns = .ok true := by
  unfold t_law
  refine Ok.eq (Ok.fin ?_)
  refine Tr.s (N' := fun _ => True) ?_ fun _ _ => rfl
  refine Tr.t (rounds_ok ns 1 (by omega)) fun x1 hx1 => Tr.forall (fun _ => True) trivial (fun d hd _ _ => ?_) fun _ h => h
  have hD := hx1 d hd
  refine Tr.t (P := fun v => (∃ n : Nat, v.1 = (n : Int) ∧ 2 ≤ n ∧ n ≤ 4) ∧ Die v.2) (Ok.bind (roll_ok hD (m := 3) (by omega) (by omega)) fun v ⟨⟨h1, h2⟩, h3⟩ => .ok ⟨⟨(2 + v.1).toNat, by show 2 + v.1 = _; omega, by omega, by omega⟩, h3⟩) fun ⟨nn, d1⟩ ⟨⟨n, e0, hn1, hn⟩, hD1⟩ => ?_
  have e0 : nn = (n : Int) := e0
  subst e0
  have hD1 : Die d1 := hD1
  have hn100 : n ≤ 100 := by omega
  dsimp only
  refine Tr.t (P := fun v => (Prof n v.1.1 ∧ v.2.1.1.Perm (nums n)) ∧ Die v.2.1.2) (Ok.bind (P := fun v => Prof n v.1 ∧ Die v.2) ?_ fun v ⟨h1, h2⟩ => Ok.bind (P := fun w => w.1.1.Perm (nums n) ∧ Die w.1.2) (Ok.bind (full_ok h2 (n := n) (by omega)) fun w ⟨h3, h4⟩ => .ok ⟨h3, h4⟩) fun w ⟨h3, h4⟩ => .ok ⟨⟨h1, h3⟩, h4⟩) fun ⟨⟨l, d2⟩, ⟨⟨ord, d3⟩, ⟨⟩⟩⟩ ⟨⟨hP, hp⟩, hD3⟩ => ?_
  · rw [okn (by omega) (by omega), grd_true, bind_ok, rngT_nat, sz (by rw [List.length_map, List.length_range]; omega), grd_true]
    exact (lcX_Ok (P := fun (q : List Int) => q.Perm (nums n)) (I := Die) hD1 fun a _ s hs => full_ok hs (by omega)).imp fun v ⟨⟨h1, h2⟩, h3⟩ => ⟨⟨by rw [h1]; simp, h2⟩, h3⟩
  have hP : Prof n l := hP
  have hp : ord.Perm (nums n) := hp
  have hD3 : Die d3 := hD3
  dsimp only
  refine Tr.t (P := fun v => (v.1.length = n ∧ ∀ x, 0 ≤ x → x < (n : Int) → gt v.1 x = some (gotF n l x) ∧ ∃ i, Goes n l x i) ∧ v.2.1.length = n ∧ ∀ x, 0 ≤ x → x < (n : Int) → gt v.2.1 x = turnF l [] ord x) (Ok.bind (trade_ok hn100 hP) fun v hv => Ok.bind (P := fun w => w.1.length = n ∧ ∀ x, 0 ≤ x → x < (n : Int) → gt w.1 x = turnF l [] ord x) (Ok.bind (in_turn_ok hn100 hP hp) fun w hw => .ok hw) fun w hw => .ok ⟨hv, hw⟩) fun ⟨got, ⟨took, ⟨⟩⟩⟩ ⟨⟨g1, g2⟩, t1, t2⟩ => ?_
  have g1 : got.length = n := g1
  have g2 : ∀ x, 0 ≤ x → x < (n : Int) → gt got x = some (gotF n l x) ∧ ∃ i, Goes n l x i := g2
  have t1 : took.length = n := t1
  have t2 : ∀ x, 0 ≤ x → x < (n : Int) → gt took x = turnF l [] ord x := t2
  dsimp only
  refine Tr.t (roll_ok hD3 (m := (n : Int)) (by omega) (by omega)) fun ⟨k, d4⟩ ⟨⟨k0, k1⟩, _⟩ => ?_
  have k0 : 0 ≤ k := k0
  have k1 : k < (n : Int) := k1
  dsimp only
  refine Tr.t (P := fun ws => ∀ w ∈ ws, w.Perm (nums n)) (Ok.bind (P := fun r => r = nums n) (.of (rngM_nat (by omega)) rfl) fun r hr => by
    subst hr
    exact (ways_ok 8 (nums n) (by rw [nums_len]; omega) (by rw [nums_len]; omega)).imp fun ws h => h.2) fun ws hws => ?_
  have el : ∀ {a : Int}, 0 ≤ a → a < (n : Int) → (atM l a : M (List Int)) = .ok (lg l a) := fun h0 h1 => lg_at h0 (by rw [hP.len]; exact h1)
  have hk : (0 : Int) ≤ k ∧ k < (n : Int) := ⟨k0, k1⟩
  obtain ⟨gk, ik, gik⟩ := g2 k k0 k1
  have eg : ∀ {a : Int}, 0 ≤ a → a < (n : Int) → (atM got a : M (Option Int)) = .ok (some (gotF n l a)) := fun {a} h0 h1 => by rw [gt_at h0 (by rw [g1]; exact h1), (g2 a h0 h1).1]
  refine Tr.s (N' := fun _ => True) ?_ fun _ _ => ?_
  · refine Tr.forall (fun _ => True) trivial (fun w hw _ _ => ?_) fun _ h => h
    have hw' : w ∈ ws.take 24 := by rw [← cutG_none]; exact hw
    have hwp := hws w (List.mem_of_mem_take hw')
    have hkl : 0 ≤ k ∧ k < l.length := ⟨k0, by rw [hP.len]; exact k1⟩
    have hsnd := lie_snd (w := w) hkl
    have c1 := cut_len l none (some k)
    have c2 := cut_len l (some (k + 1)) none
    have hlen := hP.len
    refine Tr.te (v := (cutG l none (some k)).map (fun v => (true, v)) ++ ([w] : List (List Int)).map (fun v => (false, v)) ++ (cutG l (some (k + 1)) none).map (fun v => (true, v))) ?_ ?_
    · rw [sz (by rw [List.length_map, List.length_map, List.length_singleton]; omega), grd_true, bind_ok, sz (by rw [List.length_append, List.length_map, List.length_map, List.length_singleton, List.length_map]; omega), grd_true]
    generalize (cutG l none (some k)).map (fun v => (true, v)) ++ ([w] : List (List Int)).map (fun v => (false, v)) ++ (cutG l (some (k + 1)) none).map (fun v => (true, v)) = L' at hsnd ⊢
    have h' : Prof n (l.set k.toNat w) := lie_prof hP hwp
    have he := fun x (ne : x ≠ k) (h0 : 0 ≤ x) => lie_lg (l := l) (w := w) k0 x ne h0
    have ek := lie_lg_k (w := w) hkl
    rw [trade_2 hn100 (l := L') (by rw [hsnd]; exact h'), in_turn_2, hsnd]
    generalize l.set k.toNat w = l' at h' he ek ⊢
    obtain ⟨s', es, s1, s2⟩ := trade_ok hn100 h'
    obtain ⟨u', eu, u1, u2⟩ := in_turn_ok hn100 h' hp
    obtain ⟨gk', ik', gik'⟩ := s2 k k0 k1
    obtain ⟨z, z', q1, q2, z3, z4, z5⟩ := turn_lie hn100 hP h' he hk ord [] (hp.mem_iff.mpr (nums_mem.mpr hk)) (fun x hx => (nums_mem.mp (hp.mem_iff.mp hx)).1) (by rw [hp.length_eq, nums_len]; show 0 + n ≤ n; omega)
    have hle := trade_lie hP h' he gik gik'
    have x1 : (atM s' k : M (Option Int)) = .ok (some (gotF n l' k)) := by rw [gt_at k0 (by rw [s1]; exact k1), gk']
    have x2 : (atM u' k : M (Option Int)) = .ok (some z') := by rw [gt_at k0 (by rw [u1]; exact k1), u2 k k0 k1, q2]
    have x3 : (atM took k : M (Option Int)) = .ok (some z) := by rw [gt_at k0 (by rw [t1]; exact k1), t2 k k0 k1, q1]
    have i1 := idx_mem (pr_mem hP hk (got_in h' gik'))
    have i2 := idx_mem (pr_mem hP hk (got_in hP gik))
    have i3 := idx_mem z4
    have i4 := idx_mem z3
    refine Tr.te (v := false) ?_ (Tr.ite (fun h => by cases h) fun _ => ?_)
    · simp only [el k0 k1, es, eu, eg k0 k1, x1, x2, x3, bind_ok, getM_some, i1, i2, i3, i4]
      rw [decide_eq_false (by omega), grd_false, decide_eq_false (by omega)]
    refine Tr.te (v := ((lg l k).idxOf (gotF n l k) : Int)) (by simp only [el k0 k1, eg k0 k1, bind_ok, getM_some, i2]) ?_
    refine Tr.te (v := false) ?_ (Tr.ite (fun h => by cases h) fun _ => trivial)
    simp only [el k0 k1, es, bind_ok]
    by_cases hq : cutG w none (some (((lg l k).idxOf (gotF n l k) : Int) + 1)) = cutG (lg l k) none (some (((lg l k).idxOf (gotF n l k) : Int) + 1))
    · rw [decide_eq_true hq, grd_true]
      have hs : s' = got := by
        refine gt_ext s1 g1 fun x h0 h1 => ?_
        obtain ⟨e1, i, gx⟩ := g2 x h0 h1
        rw [(s2 x h0 h1).1, e1]
        rw [show (((lg l k).idxOf (gotF n l k) : Int) + 1) = (((lg l k).idxOf (gotF n l k) + 1 : Nat) : Int) from rfl, cutG_none, cutG_none, ← ek] at hq
        rw [(trade_same hP h' he gik hq gx).2]
      rw [decide_eq_true hs]; rfl
    · rw [decide_eq_false hq, grd_false]
  refine Tr.s (N' := fun _ => True) ?_ fun _ _ => Tr.te (last_ok hn100 (by omega) hP) (Tr.ite (fun h => by cases h) fun _ => trivial)
  refine Tr.te (v := nums n) (by rw [okn (by omega) (by omega), grd_true, rngT_nat]; rfl) ?_
  refine Tr.forall (fun _ => True) trivial (fun j hj _ _ => ?_) fun _ h => h
  obtain ⟨j0, j1⟩ := nums_mem.mp hj
  have hne : ∀ {a : Int}, 0 ≤ a → a < (n : Int) → lg l a ≠ [] := fun h0 h1 e => by
    have := pr_len hP ⟨h0, h1⟩
    rw [e] at this
    exact absurd this (by show ¬ (0 = n); omega)
  refine Tr.s (N' := fun _ => True) ?_ fun _ _ => ?_
  · obtain ⟨m, rfl⟩ : ∃ m : Nat, j = (m : Int) := ⟨j.toNat, by omega⟩
    refine Tr.te (v := nums m) (by rw [okn (by omega) (by omega), grd_true, rngT_nat]; rfl) ?_
    refine Tr.forall (fun _ => True) trivial (fun i hi _ _ => ?_) fun _ h => h
    obtain ⟨i0, i1⟩ := nums_mem.mp hi
    have i1' : i < (n : Int) := by omega
    refine Tr.te (v := false) ?_ (Tr.ite (fun h => by cases h) fun _ => trivial)
    simp only [el i0 i1', el j0 j1, eg i0 i1', eg j0 j1, hd_at (hne i0 i1'), hd_at (hne j0 j1), bind_ok]
    by_cases ha : (lg l i).headD 0 = (m : Int)
    · by_cases hb : (lg l (m : Int)).headD 0 = i
      · obtain ⟨_, a2⟩ := head_le hP ⟨i0, i1'⟩ ha (by omega)
        obtain ⟨_, b2⟩ := head_le hP ⟨j0, j1⟩ hb (by omega)
        have mi : i ∈ lefts n l 0 := nums_mem.mpr ⟨i0, i1'⟩
        have mj : (m : Int) ∈ lefts n l 0 := nums_mem.mpr ⟨j0, j1⟩
        obtain ⟨p1, p2⟩ := pair_first (run_ok hP) (rank_inj hP) mi mj a2 b2
        obtain ⟨p3, p4⟩ := pair_first (run_ok hP) (rank_inj hP) mj mi b2 a2
        rw [decide_eq_true ha, grd_true, decide_eq_true hb, grd_true, gotF_at hP ⟨mi, p1⟩, gotF_at hP ⟨mj, p3⟩, p2, p4, decide_eq_true rfl]; rfl
      · rw [decide_eq_true ha, grd_true, decide_eq_false hb, grd_false]
    · rw [decide_eq_false ha, grd_false]
  · refine Tr.te (v := false) ?_ (Tr.ite (fun h => by cases h) fun _ => trivial)
    simp only [el j0 j1, eg j0 j1, hd_at (hne j0 j1), bind_ok]
    by_cases ha : (lg l j).headD 0 = j
    · obtain ⟨_, a2⟩ := head_le hP ⟨j0, j1⟩ ha (by omega)
      have mj : j ∈ lefts n l 0 := nums_mem.mpr ⟨j0, j1⟩
      obtain ⟨p1, p2⟩ := self_first (run_ok hP) (rank_inj hP) mj a2
      rw [decide_eq_true ha, grd_true, gotF_at hP ⟨mj, p1⟩, p2, decide_eq_true rfl]; rfl
    · rw [decide_eq_false ha, grd_false]
theorem always : Always T_law := fun ns h => ⟨[], by
  have := ref_t_law ns
  rw [law_ok ns h] at this
  exact this⟩
end FD.K46


set_option linter.all false
namespace FD.K46
open PySem L2
theorem all_mk (hT : Always T_law) {l : PySem.W.OpenLaw} {w : World} {K : PySem.W.Frag} {h : Heap} {mg : Str → Option Value} {fa : Addr} (X : K.In h) (G : h.Ns mainGlobals mg) (hfa : mg "law" = some (.ref fa))
    {f__law_dice : Addr}
    {f__law_rounds : Addr}
    {f__law_roll : Addr}
    {f_all_ways : Addr}
    {f__law_full : Addr}
    {f_exchanged_by : Addr}
    {f_check_list : Addr}
    {f_check_lists : Addr}
    {f_circle_from : Addr}
    {f_rounds : Addr}
    {f_trade : Addr}
    {f_in_turn : Addr}
    {f__law_flat : Addr}
    {f_law : Addr}
    {co_check_list P_check_list : Addr}
    {oe_check_list : Value}
    {oq_check_list : Option Addr}
    {vs_check_list : Array Value}
    {sq_check_list : Array (Option Value)}
    {co_check_lists P_check_lists : Addr}
    {oe_check_lists : Value}
    {oq_check_lists : Option Addr}
    {vs_check_lists : Array Value}
    {sq_check_lists : Array (Option Value)}
    {oc__law_dice kV__law_dice dc__law_dice pm__law_dice cd__law_dice ct__law_dice : Value}
    {od__law_dice an__law_dice : Option Addr}
    {sl__law_dice : Array (Option Value)}
    {oc__law_rounds kV__law_rounds dc__law_rounds pm__law_rounds cd__law_rounds ct__law_rounds : Value}
    {od__law_rounds an__law_rounds : Option Addr}
    {sl__law_rounds : Array (Option Value)}
    {oc__law_roll kV__law_roll dc__law_roll pm__law_roll cd__law_roll ct__law_roll : Value}
    {od__law_roll an__law_roll : Option Addr}
    {sl__law_roll : Array (Option Value)}
    {oc_all_ways kV_all_ways dc_all_ways pm_all_ways cd_all_ways ct_all_ways : Value}
    {od_all_ways an_all_ways : Option Addr}
    {sl_all_ways : Array (Option Value)}
    {oc__law_full kV__law_full dc__law_full pm__law_full cd__law_full ct__law_full : Value}
    {od__law_full an__law_full : Option Addr}
    {sl__law_full : Array (Option Value)}
    {oc_exchanged_by kV_exchanged_by dc_exchanged_by pm_exchanged_by cd_exchanged_by ct_exchanged_by : Value}
    {od_exchanged_by an_exchanged_by : Option Addr}
    {sl_exchanged_by : Array (Option Value)}
    {oc_check_list kV_check_list dc_check_list pm_check_list ct_check_list : Value}
    {od_check_list an_check_list : Option Addr}
    {sl_check_list : Array (Option Value)}
    {oc_check_lists kV_check_lists dc_check_lists pm_check_lists ct_check_lists : Value}
    {od_check_lists an_check_lists : Option Addr}
    {sl_check_lists : Array (Option Value)}
    {oc_circle_from kV_circle_from dc_circle_from pm_circle_from cd_circle_from ct_circle_from : Value}
    {od_circle_from an_circle_from : Option Addr}
    {sl_circle_from : Array (Option Value)}
    {oc_rounds kV_rounds dc_rounds pm_rounds cd_rounds ct_rounds : Value}
    {od_rounds an_rounds : Option Addr}
    {sl_rounds : Array (Option Value)}
    {oc_trade kV_trade dc_trade pm_trade cd_trade ct_trade : Value}
    {od_trade an_trade : Option Addr}
    {sl_trade : Array (Option Value)}
    {oc_in_turn kV_in_turn dc_in_turn pm_in_turn cd_in_turn ct_in_turn : Value}
    {od_in_turn an_in_turn : Option Addr}
    {sl_in_turn : Array (Option Value)}
    {oc__law_flat kV__law_flat dc__law_flat pm__law_flat cd__law_flat ct__law_flat : Value}
    {od__law_flat an__law_flat : Option Addr}
    {sl__law_flat : Array (Option Value)}
    {oc_law kV_law dc_law pm_law cd_law ct_law : Value}
    {od_law an_law : Option Addr}
    {sl_law : Array (Option Value)}
    (a__law_dice : PySem.W.nsIn K mainGlobals "_law_dice" = some (some (.ref f__law_dice)))
    (l__law_dice : K.lookup f__law_dice = some ⟨oc__law_dice, od__law_dice, .func (PySem.W.fnOf "_law_dice" "_law_dice" (defArgs s__law_dice) (defBody s__law_dice) (defScope s__law_dice) .none kV__law_dice dc__law_dice pm__law_dice an__law_dice cd__law_dice ct__law_dice), sl__law_dice⟩)
    (c__law_dice : PySem.W.codeIn K cd__law_dice "_law_dice" = true)
    (k__law_dice : PySem.W.keepIn K (.ref f__law_dice) = true)
    (a__law_rounds : PySem.W.nsIn K mainGlobals "_law_rounds" = some (some (.ref f__law_rounds)))
    (l__law_rounds : K.lookup f__law_rounds = some ⟨oc__law_rounds, od__law_rounds, .func (PySem.W.fnOf "_law_rounds" "_law_rounds" (defArgs s__law_rounds) (defBody s__law_rounds) (defScope s__law_rounds) .none kV__law_rounds dc__law_rounds pm__law_rounds an__law_rounds cd__law_rounds ct__law_rounds), sl__law_rounds⟩)
    (c__law_rounds : PySem.W.codeIn K cd__law_rounds "_law_rounds" = true)
    (k__law_rounds : PySem.W.keepIn K (.ref f__law_rounds) = true)
    (a__law_roll : PySem.W.nsIn K mainGlobals "_law_roll" = some (some (.ref f__law_roll)))
    (l__law_roll : K.lookup f__law_roll = some ⟨oc__law_roll, od__law_roll, .func (PySem.W.fnOf "_law_roll" "_law_roll" (defArgs s__law_roll) (defBody s__law_roll) (defScope s__law_roll) .none kV__law_roll dc__law_roll pm__law_roll an__law_roll cd__law_roll ct__law_roll), sl__law_roll⟩)
    (c__law_roll : PySem.W.codeIn K cd__law_roll "_law_roll" = true)
    (k__law_roll : PySem.W.keepIn K (.ref f__law_roll) = true)
    (a_all_ways : PySem.W.nsIn K mainGlobals "all_ways" = some (some (.ref f_all_ways)))
    (l_all_ways : K.lookup f_all_ways = some ⟨oc_all_ways, od_all_ways, .func (PySem.W.fnOf "all_ways" "all_ways" (defArgs s_all_ways) (defBody s_all_ways) (defScope s_all_ways) .none kV_all_ways dc_all_ways pm_all_ways an_all_ways cd_all_ways ct_all_ways), sl_all_ways⟩)
    (c_all_ways : PySem.W.codeIn K cd_all_ways "all_ways" = true)
    (k_all_ways : PySem.W.keepIn K (.ref f_all_ways) = true)
    (a__law_full : PySem.W.nsIn K mainGlobals "_law_full" = some (some (.ref f__law_full)))
    (l__law_full : K.lookup f__law_full = some ⟨oc__law_full, od__law_full, .func (PySem.W.fnOf "_law_full" "_law_full" (defArgs s__law_full) (defBody s__law_full) (defScope s__law_full) .none kV__law_full dc__law_full pm__law_full an__law_full cd__law_full ct__law_full), sl__law_full⟩)
    (c__law_full : PySem.W.codeIn K cd__law_full "_law_full" = true)
    (k__law_full : PySem.W.keepIn K (.ref f__law_full) = true)
    (a_exchanged_by : PySem.W.nsIn K mainGlobals "exchanged_by" = some (some (.ref f_exchanged_by)))
    (l_exchanged_by : K.lookup f_exchanged_by = some ⟨oc_exchanged_by, od_exchanged_by, .func (PySem.W.fnOf "exchanged_by" "exchanged_by" (defArgs s_exchanged_by) (defBody s_exchanged_by) (defScope s_exchanged_by) .none kV_exchanged_by dc_exchanged_by pm_exchanged_by an_exchanged_by cd_exchanged_by ct_exchanged_by), sl_exchanged_by⟩)
    (c_exchanged_by : PySem.W.codeIn K cd_exchanged_by "exchanged_by" = true)
    (k_exchanged_by : PySem.W.keepIn K (.ref f_exchanged_by) = true)
    (a_check_list : PySem.W.nsIn K mainGlobals "check_list" = some (some (.ref f_check_list)))
    (l_check_list : K.lookup f_check_list = some ⟨oc_check_list, od_check_list, .func (PySem.W.fnOf "check_list" "check_list" (defArgs s_check_list) (defBody s_check_list) (defScope s_check_list) .none kV_check_list dc_check_list pm_check_list an_check_list (.ref co_check_list) ct_check_list), sl_check_list⟩)
    (c_check_list : PySem.W.codeIn K (.ref co_check_list) "check_list" = true)
    (k_check_list : PySem.W.keepIn K (.ref f_check_list) = true)
    (a_check_lists : PySem.W.nsIn K mainGlobals "check_lists" = some (some (.ref f_check_lists)))
    (l_check_lists : K.lookup f_check_lists = some ⟨oc_check_lists, od_check_lists, .func (PySem.W.fnOf "check_lists" "check_lists" (defArgs s_check_lists) (defBody s_check_lists) (defScope s_check_lists) .none kV_check_lists dc_check_lists pm_check_lists an_check_lists (.ref co_check_lists) ct_check_lists), sl_check_lists⟩)
    (c_check_lists : PySem.W.codeIn K (.ref co_check_lists) "check_lists" = true)
    (k_check_lists : PySem.W.keepIn K (.ref f_check_lists) = true)
    (a_circle_from : PySem.W.nsIn K mainGlobals "circle_from" = some (some (.ref f_circle_from)))
    (l_circle_from : K.lookup f_circle_from = some ⟨oc_circle_from, od_circle_from, .func (PySem.W.fnOf "circle_from" "circle_from" (defArgs s_circle_from) (defBody s_circle_from) (defScope s_circle_from) .none kV_circle_from dc_circle_from pm_circle_from an_circle_from cd_circle_from ct_circle_from), sl_circle_from⟩)
    (c_circle_from : PySem.W.codeIn K cd_circle_from "circle_from" = true)
    (k_circle_from : PySem.W.keepIn K (.ref f_circle_from) = true)
    (a_rounds : PySem.W.nsIn K mainGlobals "rounds" = some (some (.ref f_rounds)))
    (l_rounds : K.lookup f_rounds = some ⟨oc_rounds, od_rounds, .func (PySem.W.fnOf "rounds" "rounds" (defArgs s_rounds) (defBody s_rounds) (defScope s_rounds) .none kV_rounds dc_rounds pm_rounds an_rounds cd_rounds ct_rounds), sl_rounds⟩)
    (c_rounds : PySem.W.codeIn K cd_rounds "rounds" = true)
    (k_rounds : PySem.W.keepIn K (.ref f_rounds) = true)
    (a_trade : PySem.W.nsIn K mainGlobals "trade" = some (some (.ref f_trade)))
    (l_trade : K.lookup f_trade = some ⟨oc_trade, od_trade, .func (PySem.W.fnOf "trade" "trade" (defArgs s_trade) (defBody s_trade) (defScope s_trade) .none kV_trade dc_trade pm_trade an_trade cd_trade ct_trade), sl_trade⟩)
    (c_trade : PySem.W.codeIn K cd_trade "trade" = true)
    (k_trade : PySem.W.keepIn K (.ref f_trade) = true)
    (a_in_turn : PySem.W.nsIn K mainGlobals "in_turn" = some (some (.ref f_in_turn)))
    (l_in_turn : K.lookup f_in_turn = some ⟨oc_in_turn, od_in_turn, .func (PySem.W.fnOf "in_turn" "in_turn" (defArgs s_in_turn) (defBody s_in_turn) (defScope s_in_turn) .none kV_in_turn dc_in_turn pm_in_turn an_in_turn cd_in_turn ct_in_turn), sl_in_turn⟩)
    (c_in_turn : PySem.W.codeIn K cd_in_turn "in_turn" = true)
    (k_in_turn : PySem.W.keepIn K (.ref f_in_turn) = true)
    (a__law_flat : PySem.W.nsIn K mainGlobals "_law_flat" = some (some (.ref f__law_flat)))
    (l__law_flat : K.lookup f__law_flat = some ⟨oc__law_flat, od__law_flat, .func (PySem.W.fnOf "_law_flat" "_law_flat" (defArgs s__law_flat) (defBody s__law_flat) (defScope s__law_flat) .none kV__law_flat dc__law_flat pm__law_flat an__law_flat cd__law_flat ct__law_flat), sl__law_flat⟩)
    (c__law_flat : PySem.W.codeIn K cd__law_flat "_law_flat" = true)
    (k__law_flat : PySem.W.keepIn K (.ref f__law_flat) = true)
    (a_law : PySem.W.nsIn K mainGlobals "law" = some (some (.ref f_law)))
    (l_law : K.lookup f_law = some ⟨oc_law, od_law, .func (PySem.W.fnOf "law" "law" (defArgs s_law) (defBody s_law) (defScope s_law) .none kV_law dc_law pm_law an_law cd_law ct_law), sl_law⟩)
    (c_law : PySem.W.codeIn K cd_law "law" = true)
    (k_law : PySem.W.keepIn K (.ref f_law) = true)
    (z_abs : PySem.W.nsIn K mainGlobals "abs" = some none)
    (z_any : PySem.W.nsIn K mainGlobals "any" = some none)
    (z_dict : PySem.W.nsIn K mainGlobals "dict" = some none)
    (z_enumerate : PySem.W.nsIn K mainGlobals "enumerate" = some none)
    (z_int : PySem.W.nsIn K mainGlobals "int" = some none)
    (z_len : PySem.W.nsIn K mainGlobals "len" = some none)
    (z_list : PySem.W.nsIn K mainGlobals "list" = some none)
    (z_min : PySem.W.nsIn K mainGlobals "min" = some none)
    (z_range : PySem.W.nsIn K mainGlobals "range" = some none)
    (z_sorted : PySem.W.nsIn K mainGlobals "sorted" = some none)
    (z_sum : PySem.W.nsIn K mainGlobals "sum" = some none)
    (z_tuple : PySem.W.nsIn K mainGlobals "tuple" = some none)
    (v_check_list : K.lookup co_check_list = some ⟨oe_check_list, oq_check_list, .fields vs_check_list, sq_check_list⟩)
    (p_check_list : vs_check_list[11]? = some (.ref P_check_list))
    (h_check_list : PySem.W.codeHdIn K co_check_list P_check_list = true)
    (q_check_list : K.lookup P_check_list = none)
    (t_check_list : h.get? P_check_list = some { cls := .none, data := .fields #[] })
    (v_check_lists : K.lookup co_check_lists = some ⟨oe_check_lists, oq_check_lists, .fields vs_check_lists, sq_check_lists⟩)
    (p_check_lists : vs_check_lists[11]? = some (.ref P_check_lists))
    (h_check_lists : PySem.W.codeHdIn K co_check_lists P_check_lists = true)
    (q_check_lists : K.lookup P_check_lists = none)
    (t_check_lists : h.get? P_check_lists = some { cls := .none, data := .fields #[] })
    (nd : [P_check_list, P_check_lists].Nodup) :
    LamX.LawAtS l w K (L2.CX l.prog w) 11 63 "_law_script" mg fa h := by
  have e := hfa.symm.trans (PySem.W.mg_of X G a_law)
  have e2 : f_law = fa := by cases e; rfl
  subst e2
  have F__law_dice := fun_mk (st := s__law_dice) l__law_dice c__law_dice k__law_dice
  have F__law_rounds := fun_mk (st := s__law_rounds) l__law_rounds c__law_rounds k__law_rounds
  have F__law_roll := fun_mk (st := s__law_roll) l__law_roll c__law_roll k__law_roll
  have F_all_ways := fun_mk (st := s_all_ways) l_all_ways c_all_ways k_all_ways
  have F__law_full := fun_mk (st := s__law_full) l__law_full c__law_full k__law_full
  have F_exchanged_by := fun_mk (st := s_exchanged_by) l_exchanged_by c_exchanged_by k_exchanged_by
  have F_check_list := fun_mk (st := s_check_list) l_check_list c_check_list k_check_list
  have F_check_lists := fun_mk (st := s_check_lists) l_check_lists c_check_lists k_check_lists
  have F_circle_from := fun_mk (st := s_circle_from) l_circle_from c_circle_from k_circle_from
  have F_rounds := fun_mk (st := s_rounds) l_rounds c_rounds k_rounds
  have F_trade := fun_mk (st := s_trade) l_trade c_trade k_trade
  have F_in_turn := fun_mk (st := s_in_turn) l_in_turn c_in_turn k_in_turn
  have F__law_flat := fun_mk (st := s__law_flat) l__law_flat c__law_flat k__law_flat
  have F_law := fun_mk (st := s_law) l_law c_law k_law
  have T : ∀ base, (∀ p ∈ ([(co_check_list, P_check_list), (co_check_lists, P_check_lists)] : List (Addr × Addr)), LamX.TabB base mg p.1 p.2) → Txt K mg base ⟨⟨fun n => 0, KL K⟩, [P_check_list, P_check_lists], []⟩ { f__law_dice := f__law_dice, d__law_dice := PySem.W.fnOf "_law_dice" "_law_dice" (defArgs s__law_dice) (defBody s__law_dice) (defScope s__law_dice) .none kV__law_dice dc__law_dice pm__law_dice an__law_dice cd__law_dice ct__law_dice, f__law_rounds := f__law_rounds, d__law_rounds := PySem.W.fnOf "_law_rounds" "_law_rounds" (defArgs s__law_rounds) (defBody s__law_rounds) (defScope s__law_rounds) .none kV__law_rounds dc__law_rounds pm__law_rounds an__law_rounds cd__law_rounds ct__law_rounds, f__law_roll := f__law_roll, d__law_roll := PySem.W.fnOf "_law_roll" "_law_roll" (defArgs s__law_roll) (defBody s__law_roll) (defScope s__law_roll) .none kV__law_roll dc__law_roll pm__law_roll an__law_roll cd__law_roll ct__law_roll, f_all_ways := f_all_ways, d_all_ways := PySem.W.fnOf "all_ways" "all_ways" (defArgs s_all_ways) (defBody s_all_ways) (defScope s_all_ways) .none kV_all_ways dc_all_ways pm_all_ways an_all_ways cd_all_ways ct_all_ways, f__law_full := f__law_full, d__law_full := PySem.W.fnOf "_law_full" "_law_full" (defArgs s__law_full) (defBody s__law_full) (defScope s__law_full) .none kV__law_full dc__law_full pm__law_full an__law_full cd__law_full ct__law_full, f_exchanged_by := f_exchanged_by, d_exchanged_by := PySem.W.fnOf "exchanged_by" "exchanged_by" (defArgs s_exchanged_by) (defBody s_exchanged_by) (defScope s_exchanged_by) .none kV_exchanged_by dc_exchanged_by pm_exchanged_by an_exchanged_by cd_exchanged_by ct_exchanged_by, f_check_list := f_check_list, d_check_list := PySem.W.fnOf "check_list" "check_list" (defArgs s_check_list) (defBody s_check_list) (defScope s_check_list) .none kV_check_list dc_check_list pm_check_list an_check_list (.ref co_check_list) ct_check_list, f_check_lists := f_check_lists, d_check_lists := PySem.W.fnOf "check_lists" "check_lists" (defArgs s_check_lists) (defBody s_check_lists) (defScope s_check_lists) .none kV_check_lists dc_check_lists pm_check_lists an_check_lists (.ref co_check_lists) ct_check_lists, f_circle_from := f_circle_from, d_circle_from := PySem.W.fnOf "circle_from" "circle_from" (defArgs s_circle_from) (defBody s_circle_from) (defScope s_circle_from) .none kV_circle_from dc_circle_from pm_circle_from an_circle_from cd_circle_from ct_circle_from, f_rounds := f_rounds, d_rounds := PySem.W.fnOf "rounds" "rounds" (defArgs s_rounds) (defBody s_rounds) (defScope s_rounds) .none kV_rounds dc_rounds pm_rounds an_rounds cd_rounds ct_rounds, f_trade := f_trade, d_trade := PySem.W.fnOf "trade" "trade" (defArgs s_trade) (defBody s_trade) (defScope s_trade) .none kV_trade dc_trade pm_trade an_trade cd_trade ct_trade, f_in_turn := f_in_turn, d_in_turn := PySem.W.fnOf "in_turn" "in_turn" (defArgs s_in_turn) (defBody s_in_turn) (defScope s_in_turn) .none kV_in_turn dc_in_turn pm_in_turn an_in_turn cd_in_turn ct_in_turn, f__law_flat := f__law_flat, d__law_flat := PySem.W.fnOf "_law_flat" "_law_flat" (defArgs s__law_flat) (defBody s__law_flat) (defScope s__law_flat) .none kV__law_flat dc__law_flat pm__law_flat an__law_flat cd__law_flat ct__law_flat, f_law := f_law, d_law := PySem.W.fnOf "law" "law" (defArgs s_law) (defBody s_law) (defScope s_law) .none kV_law dc_law pm_law an_law cd_law ct_law, c_check_list := co_check_list, P_check_list := P_check_list, c_check_lists := co_check_lists, P_check_lists := P_check_lists } := fun base TB => {
    b_abs := PySem.W.mg_none_of X G z_abs,
    b_any := PySem.W.mg_none_of X G z_any,
    b_dict := PySem.W.mg_none_of X G z_dict,
    b_enumerate := PySem.W.mg_none_of X G z_enumerate,
    b_int := PySem.W.mg_none_of X G z_int,
    b_len := PySem.W.mg_none_of X G z_len,
    b_list := PySem.W.mg_none_of X G z_list,
    b_min := PySem.W.mg_none_of X G z_min,
    b_range := PySem.W.mg_none_of X G z_range,
    b_sorted := PySem.W.mg_none_of X G z_sorted,
    b_sum := PySem.W.mg_none_of X G z_sum,
    b_tuple := PySem.W.mg_none_of X G z_tuple,
    F__law_dice := F__law_dice,
    B__law_dice := F__law_dice.binds (ps := ["_law_cell"]) fun _ _ _ _ _ _ us hl => match us, hl with | [_], _ => rfl,
    m__law_dice := PySem.W.mg_of X G a__law_dice,
    F__law_rounds := F__law_rounds,
    B__law_rounds := F__law_rounds.binds (ps := ["_law_script", "_law_most_now"]) fun _ _ _ _ _ _ us hl => match us, hl with | [_, _], _ => rfl,
    m__law_rounds := PySem.W.mg_of X G a__law_rounds,
    F__law_roll := F__law_roll,
    B__law_roll := F__law_roll.binds (ps := ["_law_dice_here", "_law_many"]) fun _ _ _ _ _ _ us hl => match us, hl with | [_, _], _ => rfl,
    m__law_roll := PySem.W.mg_of X G a__law_roll,
    F_all_ways := F_all_ways,
    B_all_ways := F_all_ways.binds (ps := ["things"]) fun _ _ _ _ _ _ us hl => match us, hl with | [_], _ => rfl,
    m_all_ways := PySem.W.mg_of X G a_all_ways,
    F__law_full := F__law_full,
    B__law_full := F__law_full.binds (ps := ["_law_dice_here", "_law_many"]) fun _ _ _ _ _ _ us hl => match us, hl with | [_, _], _ => rfl,
    m__law_full := PySem.W.mg_of X G a__law_full,
    F_exchanged_by := F_exchanged_by,
    B_exchanged_by := F_exchanged_by.binds (ps := ["rings", "many"]) fun _ _ _ _ _ _ us hl => match us, hl with | [_, _], _ => rfl,
    m_exchanged_by := PySem.W.mg_of X G a_exchanged_by,
    F_check_list := F_check_list,
    B_check_list := F_check_list.binds (ps := ["order", "many"]) fun _ _ _ _ _ _ us hl => match us, hl with | [_, _], _ => rfl,
    m_check_list := PySem.W.mg_of X G a_check_list,
    F_check_lists := F_check_lists,
    B_check_lists := F_check_lists.binds (ps := ["lists"]) fun _ _ _ _ _ _ us hl => match us, hl with | [_], _ => rfl,
    m_check_lists := PySem.W.mg_of X G a_check_lists,
    F_circle_from := F_circle_from,
    B_circle_from := F_circle_from.binds (ps := ["points", "start"]) fun _ _ _ _ _ _ us hl => match us, hl with | [_, _], _ => rfl,
    m_circle_from := PySem.W.mg_of X G a_circle_from,
    F_rounds := F_rounds,
    B_rounds := F_rounds.binds (ps := ["lists"]) fun _ _ _ _ _ _ us hl => match us, hl with | [_], _ => rfl,
    m_rounds := PySem.W.mg_of X G a_rounds,
    F_trade := F_trade,
    B_trade := F_trade.binds (ps := ["lists"]) fun _ _ _ _ _ _ us hl => match us, hl with | [_], _ => rfl,
    m_trade := PySem.W.mg_of X G a_trade,
    F_in_turn := F_in_turn,
    B_in_turn := F_in_turn.binds (ps := ["lists", "order"]) fun _ _ _ _ _ _ us hl => match us, hl with | [_, _], _ => rfl,
    m_in_turn := PySem.W.mg_of X G a_in_turn,
    F__law_flat := F__law_flat,
    B__law_flat := F__law_flat.binds (ps := ["_law_rows"]) fun _ _ _ _ _ _ us hl => match us, hl with | [_], _ => rfl,
    m__law_flat := PySem.W.mg_of X G a__law_flat,
    F_law := F_law,
    B_law := F_law.binds (ps := ["_law_script"]) fun _ _ _ _ _ _ us hl => match us, hl with | [_], _ => rfl,
    m_law := PySem.W.mg_of X G a_law,
    kl := fun _ _ h => h,
    tc_check_list := rfl,
    tb_check_list := have t := TB (co_check_list, P_check_list) (by simp); ⟨t.1, t.2, t.3⟩,
    tp_check_list := by simp,
    tc_check_lists := rfl,
    tb_check_lists := have t := TB (co_check_lists, P_check_lists) (by simp); ⟨t.1, t.2, t.3⟩,
    tp_check_lists := by simp }
  exact ⟨PySem.W.fnOf "law" "law" (defArgs s_law) (defBody s_law) (defScope s_law) .none kV_law dc_law pm_law an_law cd_law ct_law, [(co_check_list, P_check_list), (co_check_lists, P_check_lists)], spLawE K [P_check_list, P_check_lists], (List.forall_mem_cons.mpr ⟨t_check_list, List.forall_mem_cons.mpr ⟨t_check_lists, fun _ h => nomatch h⟩⟩), (List.forall_mem_cons.mpr ⟨q_check_list, List.forall_mem_cons.mpr ⟨q_check_lists, fun _ h => nomatch h⟩⟩), (List.forall_mem_cons.mpr ⟨PySem.W.codeHd_of_K X h_check_list, List.forall_mem_cons.mpr ⟨PySem.W.codeHd_of_K X h_check_lists, fun _ h => nomatch h⟩⟩), fun s v => .of_eq rfl, spLawE_of (by rfl),
    fun base _ _ TB => law_untab ((ok_law (T base TB)).imp (spLawT_of (fun _ _ h => h) hT)) (tab_sep nd) (fun _ _ _ _ _ ⟨_, _, _, _, _, _, _, _, _, _, _, _, z⟩ => z)⟩
theorem walk {l : PySem.W.OpenLaw} {q : Program} {loose : List Str} {XP : (Str → Option Value) → Heap → Prop} {YP : World → Heap → Prop} {d : DefRec} {K : Params → PySem.W.Frag} (hn : l.most = some 63) (hdf : d.params.defaults = [])
    (hY : ∀ (w : World) (h : Heap), YP w h → (K w.params).In h)
    (F : ∀ (w : World) (mg : Str → Option Value) (fa : Addr) (h : Heap), YP w h → (K w.params).In h → h.Ns mainGlobals mg → mg d.name = some (.ref fa) → LamX.LawAtS l w (K w.params) (L2.CX l.prog w) 11 63 "_law_script" mg fa h) :
    PySem.W.WalkO q loose XP YP l.row.toRowW d [] (fun f vs => PySem.call f vs) :=
  LamX.walk_ofTs (n := 63) (k := 11) (x := "_law_script") (CX := fun w => L2.CX l.prog w) hn (by decide) hdf ⟨rfl, by decide, by decide⟩ hY F fun _ _ _ _ _ ⟨_, _, _, _, _, _, _, _, _, _, _, _, z⟩ => z
end FD.K46
open PySem PySem.W in
local macro_rules
  | `(tactic| o_head ($f:ident $K $A $e $_)) => `(tactic| o_head (@$f $K $A $e [41, 46]))
  | `(tactic| o_head ($_:ident $K $A $e)) => `(tactic| o_head (@kmHook $K $A $e [41, 46]))
open PySem PySem.W PyProof.Rows in
set_option maxRecDepth 100000 in
set_option maxHeartbeats 0 in
theorem PySem.Challenge.cw_pairmart_k46_no_lie_helps_in_circles_and_holds : PySem.Challenge.rw_pairmart_k46_no_lie_helps_in_circles_and.Holds := by
  w_on; o_law; k_head; (case hw => w_witness2)
  k_fill
  refine FD.K46.walk (l := PySem.Challenge.rw_pairmart_k46_no_lie_helps_in_circles_and) rfl rfl (fun w h Y => PySem.W.km_in_of Y) ?F
  case F =>
    intro w mg fa h Y KX G hmg
    refine' FD.K46.all_mk FD.K46.always KX G hmg ?a__law_dice ?l__law_dice ?c__law_dice ?k__law_dice ?a__law_rounds ?l__law_rounds ?c__law_rounds ?k__law_rounds ?a__law_roll ?l__law_roll ?c__law_roll ?k__law_roll ?a_all_ways ?l_all_ways ?c_all_ways ?k_all_ways ?a__law_full ?l__law_full ?c__law_full ?k__law_full ?a_exchanged_by ?l_exchanged_by ?c_exchanged_by ?k_exchanged_by ?a_check_list ?l_check_list ?c_check_list ?k_check_list ?a_check_lists ?l_check_lists ?c_check_lists ?k_check_lists ?a_circle_from ?l_circle_from ?c_circle_from ?k_circle_from ?a_rounds ?l_rounds ?c_rounds ?k_rounds ?a_trade ?l_trade ?c_trade ?k_trade ?a_in_turn ?l_in_turn ?c_in_turn ?k_in_turn ?a__law_flat ?l__law_flat ?c__law_flat ?k__law_flat ?a_law ?l_law ?c_law ?k_law ?z_abs ?z_any ?z_dict ?z_enumerate ?z_int ?z_len ?z_list ?z_min ?z_range ?z_sorted ?z_sum ?z_tuple ?v_check_list ?p_check_list ?h_check_list ?q_check_list ?t_check_list ?v_check_lists ?p_check_lists ?h_check_lists ?q_check_lists ?t_check_lists ?nd
    (case a__law_dice => k_is)
    (case l__law_dice => k_is)
    (case c__law_dice => k_is)
    (case k__law_dice => k_is)
    (case a__law_rounds => k_is)
    (case l__law_rounds => k_is)
    (case c__law_rounds => k_is)
    (case k__law_rounds => k_is)
    (case a__law_roll => k_is)
    (case l__law_roll => k_is)
    (case c__law_roll => k_is)
    (case k__law_roll => k_is)
    (case a_all_ways => k_is)
    (case l_all_ways => k_is)
    (case c_all_ways => k_is)
    (case k_all_ways => k_is)
    (case a__law_full => k_is)
    (case l__law_full => k_is)
    (case c__law_full => k_is)
    (case k__law_full => k_is)
    (case a_exchanged_by => k_is)
    (case l_exchanged_by => k_is)
    (case c_exchanged_by => k_is)
    (case k_exchanged_by => k_is)
    (case a_check_list => k_is)
    (case l_check_list => k_is)
    (case c_check_list => k_is)
    (case k_check_list => k_is)
    (case a_check_lists => k_is)
    (case l_check_lists => k_is)
    (case c_check_lists => k_is)
    (case k_check_lists => k_is)
    (case a_circle_from => k_is)
    (case l_circle_from => k_is)
    (case c_circle_from => k_is)
    (case k_circle_from => k_is)
    (case a_rounds => k_is)
    (case l_rounds => k_is)
    (case c_rounds => k_is)
    (case k_rounds => k_is)
    (case a_trade => k_is)
    (case l_trade => k_is)
    (case c_trade => k_is)
    (case k_trade => k_is)
    (case a_in_turn => k_is)
    (case l_in_turn => k_is)
    (case c_in_turn => k_is)
    (case k_in_turn => k_is)
    (case a__law_flat => k_is)
    (case l__law_flat => k_is)
    (case c__law_flat => k_is)
    (case k__law_flat => k_is)
    (case a_law => k_is)
    (case l_law => k_is)
    (case c_law => k_is)
    (case k_law => k_is)
    (case z_abs => k_is)
    (case z_any => k_is)
    (case z_dict => k_is)
    (case z_enumerate => k_is)
    (case z_int => k_is)
    (case z_len => k_is)
    (case z_list => k_is)
    (case z_min => k_is)
    (case z_range => k_is)
    (case z_sorted => k_is)
    (case z_sum => k_is)
    (case z_tuple => k_is)
    (case v_check_list => k_is)
    (case p_check_list => exact rfl)
    (case h_check_list => kernel_rfl)
    (case q_check_list => kernel_rfl)
    (case t_check_list => exact PySem.W.km_tabs_of Y _ (by decide))
    (case v_check_lists => k_is)
    (case p_check_lists => exact rfl)
    (case h_check_lists => kernel_rfl)
    (case q_check_lists => kernel_rfl)
    (case t_check_lists => exact PySem.W.km_tabs_of Y _ (by decide))
    (case nd => decide)

