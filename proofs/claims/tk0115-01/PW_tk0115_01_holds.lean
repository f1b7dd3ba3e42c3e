import PyProof.Rows.All
import Wide.All
import OpenK.AllK
import Wide.FinOn
import Lean
import PySem.Challenge.RW_tk0115_01

set_option Elab.async false
set_option maxRecDepth 100000
set_option maxHeartbeats 8000000
set_option linter.unusedVariables false

section
namespace Mine
def mgGo (w : Int) (rest : List Int → List (Int × Bool)) : List Int → List (Int × Bool)
  | [] => (w, true) :: rest []
  | p :: ps => if w ≤ p then (w, true) :: rest (p :: ps) else (p, false) :: mgGo w rest ps
/-- the merged row, and which are leaves -/
def mg : List Int → List Int → List (Int × Bool)
  | [], ps => ps.map fun p => (p, false)
  | w :: ws, ps => mgGo w (mg ws) ps
theorem mg_nil (ps : List Int) : mg [] ps = ps.map fun p => (p, false) := rfl
theorem mg_cons_nil (w : Int) (ws : List Int) : mg (w :: ws) [] = (w, true) :: mg ws [] := rfl
theorem mg_cons_cons (w p : Int) (ws ps : List Int) : mg (w :: ws) (p :: ps) = if w ≤ p then (w, true) :: mg ws (p :: ps) else (p, false) :: mg (w :: ws) ps := rfl
def pairsI : List Int → List Int
  | a :: b :: r => (a + b) :: pairsI r
  | _ => []
def rowK (ws : List Int) : Nat → List (Int × Bool)
  | 0 => []
  | k + 1 => mg ws (pairsI ((rowK ws k).map (·.1)))
def incN (t : Nat) (ds : List Int) : List Int := (ds.take t).map (· + 1) ++ ds.drop t
def btStep (st : List Int × Nat) (leaves : List Bool) : List Int × Nat := (incN ((leaves.take st.2).count true) st.1, 2 * (st.2 - (leaves.take st.2).count true))
def rowsB (ws : List Int) (L : Nat) : List (List Bool) := (List.range L).map fun k => (rowK ws (k + 1)).map (·.2)
/-- the depths that package-merge gives -/
def pkg (ws : List Int) (L : Nat) : List Int := ((rowsB ws L).reverse.foldl btStep (List.replicate ws.length 0, 2 * ws.length - 2)).1

theorem mg_len : ∀ (ws ps : List Int), (mg ws ps).length = ws.length + ps.length
  | [], ps => by simp [mg_nil]
  | w :: ws, [] => by rw [mg_cons_nil, List.length_cons, mg_len ws []]; simp
  | w :: ws, p :: ps => by
    rw [mg_cons_cons]
    split
    · rw [List.length_cons, mg_len ws (p :: ps)]; simp; lia
    · rw [List.length_cons, mg_len (w :: ws) ps]; simp; lia
theorem mg_count : ∀ (ws ps : List Int), ((mg ws ps).map (·.2)).count true = ws.length
  | [], ps => by
    rw [mg_nil]
    induction ps with
    | nil => rfl
    | cons p ps ih => simpa using ih
  | w :: ws, [] => by rw [mg_cons_nil, List.map_cons, List.count_cons_self, mg_count ws []]; rfl
  | w :: ws, p :: ps => by
    rw [mg_cons_cons]
    split
    · rw [List.map_cons, List.count_cons_self, mg_count ws (p :: ps)]; rfl
    · rw [List.map_cons, List.count_cons_of_ne (by simp), mg_count (w :: ws) ps]
theorem pairsI_len : ∀ (l : List Int), (pairsI l).length = l.length / 2
  | [] => rfl
  | [_] => by simp [pairsI]
  | a :: b :: r => by
    show (pairsI r).length + 1 = _
    rw [pairsI_len r]; simp; lia
theorem rowK_len (ws : List Int) : ∀ k, (rowK ws k).length ≤ 2 * ws.length
  | 0 => Nat.zero_le _
  | k + 1 => by
    show (mg ws _).length ≤ _
    rw [mg_len, pairsI_len, List.length_map]
    have := rowK_len ws k
    lia
theorem mg_leaf {ws ps : List Int} {i j : Nat} (hi : i < ws.length) (h : j = ps.length ∨ ∃ hj : j < ps.length, ws[i] ≤ ps[j]) : mg (ws.drop i) (ps.drop j) = (ws[i], true) :: mg (ws.drop (i + 1)) (ps.drop j) := by
  rw [List.drop_eq_getElem_cons hi]
  rcases h with h | ⟨hj, h⟩
  · rw [List.drop_of_length_le (l := ps) (by lia), mg_cons_nil]
  · rw [List.drop_eq_getElem_cons hj, mg_cons_cons, if_pos h]
theorem mg_pair {ws ps : List Int} {i j : Nat} (hj : j < ps.length) (h : i = ws.length ∨ ∃ hi : i < ws.length, ¬ ws[i] ≤ ps[j]) : mg (ws.drop i) (ps.drop j) = (ps[j], false) :: mg (ws.drop i) (ps.drop (j + 1)) := by
  rw [List.drop_eq_getElem_cons hj]
  rcases h with h | ⟨hi, h⟩
  · rw [List.drop_of_length_le (l := ws) (by lia), mg_nil, mg_nil, List.map_cons]
  · rw [List.drop_eq_getElem_cons hi, mg_cons_cons, if_neg h]
theorem incN_len (t : Nat) (ds : List Int) : (incN t ds).length = ds.length := by
  unfold incN; rw [List.length_append, List.length_map, List.length_take, List.length_drop]; lia
theorem incN_succ {t : Nat} {ds : List Int} (h : t < ds.length) : incN (t + 1) ds = (incN t ds).set t ((ds.getD t 0) + 1) := by
  unfold incN
  apply List.ext_getElem?
  intro i
  have hl : ((ds.take t).map (· + 1)).length = t := by rw [List.length_map, List.length_take]; lia
  have hl' : ((ds.take (t + 1)).map (· + 1)).length = t + 1 := by rw [List.length_map, List.length_take]; lia
  rw [List.getElem?_set]
  have hg : ds.getD t 0 = ds[t] := by rw [List.getD_eq_getElem?_getD, List.getElem?_eq_getElem h]; rfl
  by_cases h1 : t = i
  · subst h1
    rw [if_pos rfl, if_pos (by simp; lia), List.getElem?_append_left (by lia), List.getElem?_map, List.getElem?_take_of_lt (by lia), List.getElem?_eq_getElem h, hg]; rfl
  · rw [if_neg h1]
    by_cases h2 : i < t
    · rw [List.getElem?_append_left (by lia), List.getElem?_append_left (by lia), List.getElem?_map, List.getElem?_map, List.getElem?_take_of_lt (by lia), List.getElem?_take_of_lt (by lia)]
    · rw [List.getElem?_append_right (by lia), List.getElem?_append_right (by lia), hl, hl', List.getElem?_drop, List.getElem?_drop]
      congr 1; lia
theorem incN_get {t : Nat} {ds : List Int} (h : t < ds.length) : (incN t ds)[t]? = some (ds.getD t 0) := by
  unfold incN
  have hl : ((ds.take t).map (· + 1)).length = t := by rw [List.length_map, List.length_take]; lia
  rw [List.getElem?_append_right (by lia), hl, List.getElem?_drop, Nat.sub_self, List.getD_eq_getElem?_getD, List.getElem?_eq_getElem (by lia)]
  simp [List.getElem?_eq_getElem h]

def lexlt (a b : Int × Int) : Bool := decide (a.1 < b.1) || (a.1 == b.1 && decide (a.2 < b.2))
/-- the symbols in use, each with its count ahead -/
def posL (cs : List Int) : List (Int × Int) := (cs.zipIdx.filter fun p => decide (0 < p.1)).map fun p => (p.1, (p.2 : Int))
def posS (cs : List Int) : List (Int × Int) := (posL cs).mergeSort fun a b => !lexlt b a
def totI (cs ls : List Int) : Int := cs.zipIdx.foldl (fun acc p => if 0 < p.1 then acc + p.1 * ls.getD p.2 0 else acc) 0
def placeI (size : Nat) (qs : List (Int × Int)) (ds : List Int) : List Int := (qs.zip ds).foldl (fun acc p => acc.set p.1.2.toNat p.2) (List.replicate size 0)
/-- the lengths that least_lengths gives -/
def lsF (cs : List Int) (L : Nat) : List Int := placeI cs.length (posS cs) (pkg ((posS cs).map (·.1)) L)
def totF (cs : List Int) (L : Nat) : Int := if (posL cs).length < 2 then 0 else totI cs (lsF cs L)
def sortI (l : List Int) : List Int := l.mergeSort fun a b => decide (a ≤ b)
def halvesF (w : Int) : List Int := ((List.range 10).filter fun k => w.fmod (2 ^ k) == 0).map fun k => w.fdiv (2 ^ k)
def halvF (parts : List Int) (w : Int) : Bool := (parts.filter fun p => decide (0 < p) && !(halvesF w).contains p).isEmpty
def savStep (order : List Int) (acc c : Int) : Int := if 0 < c then acc + c + (if c == order.getD 0 0 then order.getD 1 0 else order.getD 0 0) else acc
def savF (cs : List Int) (rows : List (List Int)) : Int := rows.foldl (fun acc row => (sortI row).dropLast.foldl (savStep (sortI cs)) acc) 0

theorem posS_perm (cs : List Int) : (posS cs).Perm (posL cs) := List.mergeSort_perm _ _
theorem posS_sorted (cs : List Int) : (posS cs).Pairwise fun a b => lexlt b a = false := by
  have h := List.pairwise_mergeSort (le := fun a b : Int × Int => !lexlt b a) (fun a b c h1 h2 => by
    simp only [lexlt, Bool.not_eq_true', Bool.or_eq_false_iff, Bool.and_eq_false_iff, decide_eq_false_iff_not, beq_eq_false_iff_ne, ne_eq] at h1 h2 ⊢
    lia) (fun a b => by
    have : lexlt b a = false ∨ lexlt a b = false := by
      simp only [lexlt, Bool.or_eq_false_iff, Bool.and_eq_false_iff, decide_eq_false_iff_not, beq_eq_false_iff_ne, ne_eq]
      lia
    rcases this with h | h <;> simp [h]) (posL cs)
  exact h.imp fun h => by simpa using h
theorem posS_uniq {cs : List Int} {qs : List (Int × Int)} (hp : qs.Perm (posL cs)) (hs : qs.Pairwise fun a b => lexlt a b = true) : qs = posS cs := by
  refine List.Perm.eq_of_pairwise (le := fun a b => lexlt b a = false) (fun a b _ _ h1 h2 => ?_) (hs.imp fun {a b} h => ?_) (posS_sorted cs) (hp.trans (posS_perm cs).symm)
  · simp only [lexlt, Bool.or_eq_false_iff, Bool.and_eq_false_iff, decide_eq_false_iff_not, beq_eq_false_iff_ne, ne_eq] at h1 h2
    exact Prod.ext (by lia) (by lia)
  · have : ¬ lexlt b a = true := fun h2 => by
      simp only [lexlt, Bool.or_eq_true, Bool.and_eq_true, decide_eq_true_eq, beq_iff_eq] at h h2
      lia
    simpa using this
theorem sortI_perm (l : List Int) : (sortI l).Perm l := List.mergeSort_perm _ _
theorem sortI_sorted (l : List Int) : (sortI l).Pairwise (· ≤ ·) := by
  have h := List.pairwise_mergeSort (le := fun a b : Int => decide (a ≤ b)) (fun a b c h1 h2 => by simp only [decide_eq_true_eq] at *; lia) (fun a b => by simp only [Bool.or_eq_true, decide_eq_true_eq]; lia) l
  exact h.imp fun h => of_decide_eq_true h
theorem sortI_uniq {l ms : List Int} (hp : ms.Perm l) (hs : ms.Pairwise (· ≤ ·)) : ms = sortI l :=
  List.Perm.eq_of_pairwise (le := (· ≤ ·)) (fun a b _ _ h1 h2 => by lia) hs (sortI_sorted l) (hp.trans (sortI_perm l).symm)
def rowsF (cs gs : List Int) (N : Nat) : List (List Int) := (List.range N).map fun (k : Nat) => (cs.zip gs).map fun p => if p.2 == (k : Int) then p.1 else 0
def partF (row : List Int) : List Int := row.filter fun c => decide (0 < c)
def usedF (rows : List (List Int)) : List (List Int) := (rows.map partF).filter fun p => !p.isEmpty
def minI (l : List Int) : Int := (sortI l).getD 0 0
def overF (cs : List Int) (rows : List (List Int)) : Int := (((usedF rows).filter fun p => decide (1 < p.length)).map List.sum).sum + (if 1 < (usedF rows).length then cs.sum else 0)
def sharesF (ls gs : List Int) (N most : Nat) : List Int := (List.range N).map fun (k : Nat) => (((ls.zip gs).filter fun p => p.2 == (k : Int)).map fun p => (2 : Int) ^ ((most : Int) - p.1).toNat).sum
def evenN (m : Nat) : Nat := ((List.range 4).filter fun k => decide (2 ^ k < m)).length
def apartF (rows : List (List Int)) (L : Nat) : Int := (rows.map fun r => totF r L).sum
/-- what the walks take from the mathematics -/
structure MF : Prop where
  pos : ∀ (cs : List Int) (L : Nat), (∀ c ∈ cs, 0 ≤ c) → 2 ≤ (posL cs).length → 1 ≤ L → (posL cs).length ≤ 2 ^ L →
    (lsF cs L).length = cs.length ∧ ∀ (i : Nat) (c : Int), cs[i]? = some c → 0 < c → ∃ l : Int, (lsF cs L)[i]? = some l ∧ 1 ≤ l ∧ l ≤ L
  /-- the law: counts, groups, how many groups at most, the longest lengths -/
  rounds : ∀ (cs gs : List Int) (N m inner outer most : Nat), 3 ≤ cs.length → cs.length ≤ 9 → gs.length = cs.length → (∀ c ∈ cs, 1 ≤ c) → (∀ g ∈ gs, 0 ≤ g ∧ g < N) → N ≤ 9 →
    (∀ p ∈ usedF (rowsF cs gs N), p.length ≤ m) → m ≤ 9 → (inner = evenN m ∨ inner = evenN m + 1) → (outer = evenN (usedF (rowsF cs gs N)).length ∨ outer = evenN (usedF (rowsF cs gs N)).length + 1) →
    cs.length ≤ 2 ^ most → most ≤ 9 →
    cs.length ≤ 2 ^ (inner + outer) ∧
    totF cs (inner + outer) ≤ apartF (rowsF cs gs N) inner + totF ((rowsF cs gs N).map List.sum) outer ∧
    totF ((rowsF cs gs N).map List.sum) most + savF cs (rowsF cs gs N) ≤ totI cs (lsF cs most) ∧
    (1 < (usedF (rowsF cs gs N)).length → apartF (rowsF cs gs N) most + ((usedF (rowsF cs gs N)).map minI).sum ≤ totI cs (lsF cs most)) ∧
    (cs.length ≤ most + 1 →
      (totI cs (lsF cs most) ≤ apartF (rowsF cs gs N) most + totF ((rowsF cs gs N).map List.sum) most ∧
       apartF (rowsF cs gs N) most + totF ((rowsF cs gs N).map List.sum) most < totI cs (lsF cs most) + overF cs (rowsF cs gs N)) ∧
      (halvF (sharesF (lsF cs most) gs N most) (2 ^ most) = true → totI cs (lsF cs most) = apartF (rowsF cs gs N) most + totF ((rowsF cs gs N).map List.sum) most) ∧
      (halvF cs cs.sum = true → ((totI cs (lsF cs most) = apartF (rowsF cs gs N) most + totF ((rowsF cs gs N).map List.sum) most) ↔ halvF ((rowsF cs gs N).map List.sum) cs.sum = true)))
end Mine
end

section
namespace Mine
open List
abbrev Cd := List (Int × Nat)
def kr (L : Nat) (X : Cd) : Nat := (X.map fun x => 2 ^ (L - x.2)).sum
def cost (X : Cd) : Int := (X.map fun x => x.1 * (x.2 : Int)).sum
def wts (X : Cd) : List Int := X.map (·.1)
def lens (X : Cd) : Nat := (X.map (·.2)).sum
structure Ok (L : Nat) (X : Cd) : Prop where
  le : ∀ x ∈ X, x.2 ≤ L
  kr : kr L X ≤ 2 ^ L
def Reach (L : Nat) (S : List Int) (v : Int) : Prop := ∃ X, (wts X).Perm S ∧ Ok L X ∧ cost X ≤ v
theorem permSumI {l m : List Int} (h : l.Perm m) : l.sum = m.sum := by
  induction h with
  | nil => rfl
  | cons x _ ih => simp [ih]
  | swap x y l => simp only [sum_cons]; lia
  | trans _ _ h1 h2 => exact h1.trans h2
theorem kr_cons (L : Nat) (x : Int × Nat) (X : Cd) : kr L (x :: X) = 2 ^ (L - x.2) + kr L X := by simp [kr]
theorem kr_app (L : Nat) (X Y : Cd) : kr L (X ++ Y) = kr L X + kr L Y := by simp [kr]
theorem cost_cons (x : Int × Nat) (X : Cd) : cost (x :: X) = x.1 * (x.2 : Int) + cost X := by simp [cost]
theorem cost_app (X Y : Cd) : cost (X ++ Y) = cost X + cost Y := by simp [cost]
theorem wts_cons (x : Int × Nat) (X : Cd) : wts (x :: X) = x.1 :: wts X := rfl
theorem wts_app (X Y : Cd) : wts (X ++ Y) = wts X ++ wts Y := by simp [wts]
theorem kr_perm {L : Nat} {X Y : Cd} (h : X.Perm Y) : kr L X = kr L Y := (h.map _).sum_nat
theorem cost_perm {X Y : Cd} (h : X.Perm Y) : cost X = cost Y := permSumI (h.map _)
theorem lens_perm {X Y : Cd} (h : X.Perm Y) : lens X = lens Y := (h.map _).sum_nat
theorem wts_perm {X Y : Cd} (h : X.Perm Y) : (wts X).Perm (wts Y) := h.map _
theorem Ok.perm {L : Nat} {X Y : Cd} (h : Ok L X) (p : X.Perm Y) : Ok L Y := ⟨fun x hx => h.le x (p.mem_iff.mpr hx), by rw [← kr_perm p]; exact h.kr⟩
theorem Reach.perm {L : Nat} {S T : List Int} {v : Int} (h : Reach L S v) (p : S.Perm T) : Reach L T v :=
  let ⟨X, h1, h2, h3⟩ := h; ⟨X, h1.trans p, h2, h3⟩
theorem Reach.mono {L : Nat} {S : List Int} {v w : Int} (h : Reach L S v) (p : v ≤ w) : Reach L S w :=
  let ⟨X, h1, h2, h3⟩ := h; ⟨X, h1, h2, Int.le_trans h3 p⟩
theorem mem_split {α : Type} {x : α} {X : List α} (h : x ∈ X) : ∃ Y, X.Perm (x :: Y) := by
  obtain ⟨s, t, rfl⟩ := append_of_mem h
  exact ⟨s ++ t, perm_middle⟩
theorem wts_split {X : Cd} {a : Int} {S : List Int} (h : (wts X).Perm (a :: S)) : ∃ l Y, X.Perm ((a, l) :: Y) ∧ (wts Y).Perm S := by
  have ha : a ∈ wts X := h.mem_iff.mpr (mem_cons_self ..)
  obtain ⟨x, hx, rfl⟩ := mem_map.mp ha
  obtain ⟨Y, hY⟩ := mem_split hx
  exact ⟨x.2, Y, hY, ((wts_perm hY).symm.trans h).cons_inv⟩
/-- the weights in the order that is asked -/
theorem real {S : List Int} : ∀ {X : Cd}, (wts X).Perm S → ∃ Y, Y.Perm X ∧ wts Y = S := by
  induction S with
  | nil =>
    intro X h
    cases X with
    | nil => exact ⟨[], .refl _, rfl⟩
    | cons x X => cases (show wts (x :: X) = x.1 :: wts X from rfl) ▸ h.eq_nil
  | cons a S ih =>
    intro X h
    obtain ⟨l, Y, h1, h2⟩ := wts_split h
    obtain ⟨Z, h3, h4⟩ := ih h2
    exact ⟨(a, l) :: Z, (h3.cons _).trans h1.symm, by rw [wts_cons, h4]⟩
theorem Reach.real {L : Nat} {S : List Int} {v : Int} (h : Reach L S v) : ∃ X, wts X = S ∧ Ok L X ∧ cost X ≤ v := by
  obtain ⟨X, h1, h2, h3⟩ := h
  obtain ⟨Y, h4, h5⟩ := Mine.real h1
  exact ⟨Y, h5, h2.perm h4.symm, by rw [cost_perm h4]; exact h3⟩
theorem longest : ∀ {X : Cd}, X ≠ [] → ∃ x Y, X.Perm (x :: Y) ∧ ∀ y ∈ Y, y.2 ≤ x.2
  | [], h => absurd rfl h
  | [x], _ => ⟨x, [], .refl _, fun _ h => nomatch h⟩
  | a :: b :: X, _ => by
    obtain ⟨x, Y, h1, h2⟩ := longest (X := b :: X) (by simp)
    by_cases h : a.2 ≤ x.2
    · refine ⟨x, a :: Y, (h1.cons a).trans (.swap ..), fun y hy => ?_⟩
      rcases mem_cons.mp hy with h3 | h3
      · rw [h3]; exact h
      · exact h2 y h3
    · refine ⟨a, x :: Y, h1.cons a, fun y hy => ?_⟩
      rcases mem_cons.mp hy with h3 | h3
      · rw [h3]; lia
      · have := h2 y h3; lia
theorem kr_dvd {L D : Nat} : ∀ {X : Cd}, (∀ x ∈ X, x.2 ≤ D) → 2 ^ (L - D) ∣ kr L X
  | [], _ => ⟨0, rfl⟩
  | x :: X, h => by
    rw [kr_cons]
    exact Nat.dvd_add (Nat.pow_dvd_pow 2 (by have := h x (mem_cons_self ..); lia)) (kr_dvd fun y hy => h y (mem_cons_of_mem _ hy))
theorem kr_pos {L : Nat} {X : Cd} (h : X ≠ []) : 0 < kr L X := by
  cases X with
  | nil => exact absurd rfl h
  | cons x X => rw [kr_cons]; have := Nat.two_pow_pos (L - x.2); lia
theorem pow_step {L D : Nat} (h : D < L) : 2 ^ (L - D) = 2 * 2 ^ (L - (D + 1)) := by
  rw [show L - D = (L - (D + 1)) + 1 by lia, Nat.pow_succ]; lia
theorem dvd_room {u k T : Nat} (h1 : u ∣ k) (h2 : u ∣ T) (h : k < T) : k + u ≤ T := by
  obtain ⟨a, rfl⟩ := h1
  obtain ⟨b, rfl⟩ := h2
  have : a < b := Nat.lt_of_mul_lt_mul_left h
  have := Nat.mul_le_mul_left u (show a + 1 ≤ b from this)
  rw [Nat.mul_add] at this; lia
theorem kr_ge {L : Nat} {x : Int × Nat} {X : Cd} (h : x ∈ X) : 2 ^ (L - x.2) ≤ kr L X := by
  obtain ⟨Y, hY⟩ := mem_split h
  rw [kr_perm hY, kr_cons]; lia
/-- room left: a longest one can be shorter -/
theorem shorten {L : Nat} {X : Cd} (hne : X ≠ []) (hle : ∀ x ∈ X, x.2 ≤ L) (hk : kr L X < 2 ^ L) :
    ∃ x Y, X.Perm (x :: Y) ∧ (∀ y ∈ Y, y.2 ≤ x.2) ∧ 1 ≤ x.2 ∧ Ok L ((x.1, x.2 - 1) :: Y) := by
  obtain ⟨x, Y, h1, h2⟩ := longest hne
  have hx : x ∈ X := h1.mem_iff.mpr (mem_cons_self ..)
  have hxL := hle x hx
  have hx1 : 1 ≤ x.2 := by
    refine Nat.one_le_iff_ne_zero.mpr fun h0 => ?_
    have := kr_ge (L := L) hx
    rw [h0] at this
    simp at this; lia
  refine ⟨x, Y, h1, h2, hx1, fun y hy => ?_, ?_⟩
  · rcases mem_cons.mp hy with h | h
    · rw [h]; show x.2 - 1 ≤ L; lia
    · exact hle y (h1.mem_iff.mpr (mem_cons_of_mem _ h))
  · have hd : 2 ^ (L - x.2) ∣ kr L X := kr_dvd (D := x.2) fun y hy => by
      rcases mem_cons.mp (h1.mem_iff.mp hy) with h | h
      · rw [h]; exact Nat.le_refl _
      · exact h2 y h
    have := dvd_room hd (Nat.pow_dvd_pow 2 (by lia)) hk
    rw [kr_perm h1, kr_cons] at this
    rw [kr_cons]
    show 2 ^ (L - (x.2 - 1)) + _ ≤ _
    rw [pow_step (show x.2 - 1 < L by lia), show x.2 - 1 + 1 = x.2 by lia]
    lia
theorem cost_short {x : Int × Nat} {Y : Cd} (h : 1 ≤ x.2) : cost ((x.1, x.2 - 1) :: Y) = cost (x :: Y) - x.1 := by
  rw [cost_cons, cost_cons]
  show x.1 * ((x.2 - 1 : Nat) : Int) + _ = _
  rw [show ((x.2 - 1 : Nat) : Int) = (x.2 : Int) - 1 by lia, Int.mul_sub]; lia
/-- a full code of n symbols has no length beyond n - 1 -/
theorem full_len {L : Nat} : ∀ (n : Nat) (X : Cd), X.length = n → (∀ x ∈ X, x.2 ≤ L) → kr L X = 2 ^ L → ∀ x ∈ X, x.2 + 1 ≤ n
  | 0, X, h, _, _ => fun x hx => by
    have : X = [] := length_eq_zero_iff.mp h
    rw [this] at hx; cases hx
  | n + 1, X, hn, hle, hk => fun z hz => by
    obtain ⟨x, Y, h1, h2⟩ := longest (X := X) (by intro h; rw [h] at hz; cases hz)
    have hx : x ∈ X := h1.mem_iff.mpr (mem_cons_self ..)
    have hzx : z.2 ≤ x.2 := by
      rcases mem_cons.mp (h1.mem_iff.mp hz) with h | h
      · rw [h]; exact Nat.le_refl _
      · exact h2 z h
    suffices x.2 + 1 ≤ n + 1 by lia
    rcases Nat.eq_zero_or_pos x.2 with h0 | hpos
    · lia
    have hxL := hle x hx
    have hY : ∀ y ∈ Y, y ∈ X := fun y hy => h1.mem_iff.mpr (mem_cons_of_mem _ hy)
    by_cases he : ∃ y ∈ Y, y.2 = x.2
    · obtain ⟨y, hy, hyx⟩ := he
      obtain ⟨Z, hZ⟩ := mem_split hy
      have hlen : ((x.1, x.2 - 1) :: Z).length = n := by
        have e1 := h1.length_eq; have e2 := hZ.length_eq
        simp only [length_cons] at e1 e2 ⊢; lia
      have hk2 : kr L ((x.1, x.2 - 1) :: Z) = 2 ^ L := by
        rw [← hk, kr_perm h1, kr_cons, kr_cons, kr_perm hZ, kr_cons, hyx]
        show 2 ^ (L - (x.2 - 1)) + _ = _
        rw [pow_step (show x.2 - 1 < L by lia), show x.2 - 1 + 1 = x.2 by lia]; lia
      have := full_len n _ hlen (fun w hw => by
        rcases mem_cons.mp hw with h | h
        · rw [h]; show x.2 - 1 ≤ L; lia
        · exact hle w (hY w (hZ.mem_iff.mpr (mem_cons_of_mem _ h)))) hk2 _ (mem_cons_self ..)
      have : x.2 - 1 + 1 ≤ n := this
      lia
    · exfalso
      have hd : 2 ^ (L - (x.2 - 1)) ∣ kr L Y := kr_dvd fun y hy => by
        have h3 := h2 y hy
        have h4 : y.2 ≠ x.2 := fun h => he ⟨y, hy, h⟩
        lia
      have hd2 : 2 ^ (L - (x.2 - 1)) ∣ 2 ^ L := Nat.pow_dvd_pow 2 (by lia)
      rw [← hk, kr_perm h1, kr_cons] at hd2
      have hd3 := (Nat.dvd_add_left hd).mp hd2
      have := Nat.le_of_dvd (Nat.two_pow_pos _) hd3
      rw [pow_step (show x.2 - 1 < L by lia), show x.2 - 1 + 1 = x.2 by lia] at this
      have := Nat.two_pow_pos (L - x.2)
      lia
theorem kr_lift {m d : Nat} : ∀ {X : Cd}, (∀ x ∈ X, x.2 ≤ m) → kr (m + d) X = 2 ^ d * kr m X
  | [], _ => rfl
  | x :: X, h => by
    have hx := h x (mem_cons_self ..)
    rw [kr_cons, kr_cons, kr_lift fun y hy => h y (mem_cons_of_mem _ hy), Nat.mul_add, ← Nat.pow_add]
    congr 2; lia
theorem Ok.lift {m L : Nat} {X : Cd} (h : Ok m X) (hm : m ≤ L) : Ok L X := by
  obtain ⟨d, rfl⟩ := Nat.le.dest hm
  refine ⟨fun x hx => by have := h.le x hx; lia, ?_⟩
  rw [kr_lift h.le, Nat.pow_add, Nat.mul_comm]
  exact Nat.mul_le_mul_right _ h.kr
theorem Ok.drop {m L : Nat} {X : Cd} (h : Ok L X) (hm : ∀ x ∈ X, x.2 ≤ m) : Ok m X := by
  rcases Nat.le_total L m with h1 | h1
  · exact h.lift h1
  obtain ⟨d, rfl⟩ := Nat.le.dest h1
  refine ⟨hm, ?_⟩
  have := h.kr
  rw [kr_lift hm, Nat.pow_add, Nat.mul_comm] at this
  exact Nat.le_of_mul_le_mul_right this (Nat.two_pow_pos _)
/-- with room enough no length beyond n - 1 is wanted -/
theorem room_aux {L m : Nat} : ∀ (t : Nat) (X : Cd), lens X = t → X.length ≤ m + 1 → (∀ w ∈ wts X, 0 ≤ w) → Ok L X → ∃ Y, (wts Y).Perm (wts X) ∧ Ok m Y ∧ cost Y ≤ cost X := by
  intro t
  induction t using Nat.strongRecOn with
  | _ t ih =>
    intro X ht hn hw hX
    by_cases hm : ∀ x ∈ X, x.2 ≤ m
    · exact ⟨X, .refl _, hX.drop hm, Int.le_refl _⟩
    · have hm : ∃ x ∈ X, m < x.2 := Classical.byContradiction fun h => hm fun x hx => by
        rcases Nat.lt_or_ge m x.2 with h1 | h1
        · exact absurd ⟨x, hx, h1⟩ h
        · exact h1
      obtain ⟨x, hx, hmx⟩ := hm
      have hk : kr L X < 2 ^ L := by
        rcases Nat.lt_or_ge (kr L X) (2 ^ L) with h | h
        · exact h
        · have := full_len _ X rfl hX.le (Nat.le_antisymm hX.kr h) x hx
          lia
      obtain ⟨y, Y, h1, h2, h3, h4⟩ := shorten (by intro h; rw [h] at hx; cases hx) hX.le hk
      have hwy : (wts ((y.1, y.2 - 1) :: Y)).Perm (wts X) := (wts_perm h1).symm
      obtain ⟨Z, z1, z2, z3⟩ := ih (lens ((y.1, y.2 - 1) :: Y)) (by
          rw [← ht, lens_perm h1]; simp only [lens, map_cons, sum_cons]; lia) _ rfl (by
          have := h1.length_eq; simp only [length_cons] at this ⊢; lia) (fun w h => hw w (hwy.mem_iff.mp h)) h4
      refine ⟨Z, z1.trans hwy, z2, ?_⟩
      rw [cost_short h3, ← cost_perm h1] at z3
      have : 0 ≤ y.1 := hw _ ((wts_perm h1).mem_iff.mpr (mem_cons_self ..))
      lia
theorem Reach.room {L m : Nat} {S : List Int} {v : Int} (h : Reach L S v) (hn : S.length ≤ m + 1) (hw : ∀ w ∈ S, 0 ≤ w) : Reach m S v := by
  obtain ⟨X, h1, h2, h3⟩ := h
  obtain ⟨Y, y1, y2, y3⟩ := room_aux (L := L) (m := m) _ X rfl (by have := h1.length_eq; simp only [wts, length_map] at this; lia) (fun w h => hw w (h1.mem_iff.mp h)) h2
  exact ⟨Y, y1.trans h1, y2, by lia⟩
end Mine
end

section
namespace Mine
open List
theorem mulz {a : Int} {x y : Nat} (h : x ≤ y) (ha : 0 ≤ a) : a * (x : Int) ≤ a * (y : Int) := Int.mul_le_mul_of_nonneg_left (by lia) ha
/-- two symbols as one save the lesser one and the least of all others -/
theorem merge_aux {L : Nat} {a b mn : Int} (ha : 0 ≤ a) (hab : a ≤ b) (hmb : mn ≤ b) : ∀ (t la lb : Nat) (Y : Cd), la + lb = t → (∀ y ∈ wts Y, 0 ≤ y ∧ mn ≤ y) → Ok L ((a, la) :: (b, lb) :: Y) →
    Reach L ((a + b) :: wts Y) (cost ((a, la) :: (b, lb) :: Y) - a - mn) := by
  intro t
  induction t using Nat.strongRecOn with
  | _ t ih =>
    intro la lb Y ht hY hX
    have hk := hX.kr
    have hla : la ≤ L := hX.le _ (mem_cons_self ..)
    have hlb : lb ≤ L := hX.le _ (mem_cons_of_mem _ (mem_cons_self ..))
    have hYL : ∀ y ∈ Y, y.2 ≤ L := fun y hy => hX.le y (mem_cons_of_mem _ (mem_cons_of_mem _ hy))
    rw [kr_cons, kr_cons] at hk
    dsimp only at hk
    by_cases he : la = lb
    · subst he
      have hl1 : 1 ≤ la := by
        refine Nat.one_le_iff_ne_zero.mpr fun h0 => ?_
        rw [h0] at hk; simp only [Nat.sub_zero] at hk
        have := Nat.two_pow_pos L; lia
      refine ⟨(a + b, la - 1) :: Y, .refl _, ⟨fun y hy => ?_, ?_⟩, ?_⟩
      · rcases mem_cons.mp hy with h | h
        · rw [h]; show la - 1 ≤ L; lia
        · exact hYL y h
      · rw [kr_cons]; show 2 ^ (L - (la - 1)) + _ ≤ _
        rw [pow_step (show la - 1 < L by lia), show la - 1 + 1 = la by lia]; lia
      · rw [cost_cons, cost_cons, cost_cons]; dsimp only
        rw [show ((la - 1 : Nat) : Int) = (la : Int) - 1 by lia, Int.mul_sub, Int.add_mul]; lia
    · by_cases hq : ∃ y ∈ Y, max la lb ≤ y.2
      · obtain ⟨y, hy, hyl⟩ := hq
        obtain ⟨Z, hZ⟩ := mem_split hy
        have hyL := hYL y hy
        have hw := hY y.1 (mem_map_of_mem hy)
        have hkZ := kr_perm (L := L) hZ
        rw [kr_cons] at hkZ
        refine ⟨(a + b, min la lb) :: (y.1, y.2 - 1) :: Z, (wts_perm hZ).symm.cons (a + b), ⟨fun z hz => ?_, ?_⟩, ?_⟩
        · rcases mem_cons.mp hz with h | h
          · rw [h]; show min la lb ≤ L; lia
          · rcases mem_cons.mp h with h | h
            · rw [h]; show y.2 - 1 ≤ L; lia
            · exact hYL z (hZ.mem_iff.mpr (mem_cons_of_mem _ h))
        · rw [kr_cons, kr_cons]; show 2 ^ (L - min la lb) + (2 ^ (L - (y.2 - 1)) + _) ≤ _
          rw [pow_step (show y.2 - 1 < L by lia), show y.2 - 1 + 1 = y.2 by lia]
          have h1 : 2 ^ (L - y.2) ≤ 2 ^ (L - max la lb) := Nat.pow_le_pow_right (by lia) (by lia)
          have h2 : 2 ^ (L - la) + 2 ^ (L - lb) = 2 ^ (L - min la lb) + 2 ^ (L - max la lb) := by
            rcases Nat.le_total la lb with h | h
            · rw [Nat.min_eq_left h, Nat.max_eq_right h]
            · rw [Nat.min_eq_right h, Nat.max_eq_left h]; lia
          lia
        · have hcY : cost Y = y.1 * (y.2 : Int) + cost Z := by rw [cost_perm hZ, cost_cons]
          have hs := cost_short (x := y) (Y := Z) (by lia)
          rw [cost_cons (y.1, y.2 - 1), cost_cons y] at hs
          rw [cost_cons, cost_cons, cost_cons, cost_cons, hcY]; dsimp only at hs ⊢
          rw [Int.add_mul]
          have h3 : a * ((min la lb : Nat) : Int) + b * ((min la lb : Nat) : Int) + a ≤ a * (la : Int) + b * (lb : Int) := by
            rcases Nat.lt_or_gt_of_ne he with h | h
            · rw [Nat.min_eq_left (by lia)]
              have := mulz (a := b) (show la + 1 ≤ lb from h) (by lia)
              rw [Int.natCast_add, Int.mul_add] at this; simp only [Int.natCast_one, Int.mul_one] at this; lia
            · rw [Nat.min_eq_right (by lia)]
              have := mulz (a := a) (show lb + 1 ≤ la from h) (by lia)
              rw [Int.natCast_add, Int.mul_add] at this; simp only [Int.natCast_one, Int.mul_one] at this; lia
          lia
      · have hlt : ∀ y ∈ Y, y.2 ≤ max la lb - 1 := fun y hy => by
          rcases Nat.lt_or_ge y.2 (max la lb) with h | h
          · lia
          · exact absurd ⟨y, hy, h⟩ hq
        have hM1 : 1 ≤ max la lb := by lia
        have hML : max la lb ≤ L := by lia
        have hu := pow_step (show max la lb - 1 < L by lia)
        rw [show max la lb - 1 + 1 = max la lb by lia] at hu
        have hd2 : 2 ^ (L - (max la lb - 1)) ∣ 2 ^ L := Nat.pow_dvd_pow 2 (by lia)
        have hup := Nat.two_pow_pos (L - max la lb)
        rcases Nat.lt_or_gt_of_ne he with h | h
        · have hm : max la lb = lb := by lia
          rw [hm] at hu hup hlt hd2
          have hd : 2 ^ (L - (lb - 1)) ∣ 2 ^ (L - la) + kr L Y := Nat.dvd_add (Nat.pow_dvd_pow 2 (by lia)) (kr_dvd hlt)
          have hr := dvd_room hd hd2 (by lia)
          refine (ih (la + (lb - 1)) (by lia) la (lb - 1) Y rfl hY ⟨fun z hz => ?_, ?_⟩).mono ?_
          · rcases mem_cons.mp hz with h | h
            · rw [h]; exact hla
            · rcases mem_cons.mp h with h | h
              · rw [h]; show lb - 1 ≤ L; lia
              · exact hYL z h
          · rw [kr_cons, kr_cons]; dsimp only; lia
          · rw [cost_cons, cost_cons, cost_cons, cost_cons]; dsimp only
            have := mulz (a := b) (show lb - 1 ≤ lb by lia) (by lia)
            lia
        · have hm : max la lb = la := by lia
          rw [hm] at hu hup hlt hd2
          have hd : 2 ^ (L - (la - 1)) ∣ 2 ^ (L - lb) + kr L Y := Nat.dvd_add (Nat.pow_dvd_pow 2 (by lia)) (kr_dvd hlt)
          have hr := dvd_room hd hd2 (by lia)
          refine (ih ((la - 1) + lb) (by lia) (la - 1) lb Y rfl hY ⟨fun z hz => ?_, ?_⟩).mono ?_
          · rcases mem_cons.mp hz with h | h
            · rw [h]; show la - 1 ≤ L; lia
            · rcases mem_cons.mp h with h | h
              · rw [h]; exact hlb
              · exact hYL z h
          · rw [kr_cons, kr_cons]; dsimp only; lia
          · rw [cost_cons, cost_cons, cost_cons, cost_cons]; dsimp only
            have := mulz (a := a) (show la - 1 ≤ la by lia) (by lia)
            lia
theorem Reach.merge {L : Nat} {a b mn v : Int} {S : List Int} (h : Reach L (a :: b :: S) v) (ha : 0 ≤ a) (hab : a ≤ b) (hmb : mn ≤ b) (hS : ∀ y ∈ S, 0 ≤ y ∧ mn ≤ y) : Reach L ((a + b) :: S) (v - a - mn) := by
  obtain ⟨X, h1, h2, h3⟩ := h.real
  match X, h1, h2, h3 with
  | (a', la) :: (b', lb) :: Y, h1, h2, h3 =>
    rw [wts_cons, wts_cons] at h1
    injection h1 with e1 h4; injection h4 with e2 h5
    dsimp only at e1 e2; subst e1; subst e2; subst h5
    exact (merge_aux ha hab hmb _ la lb Y rfl hS h2).mono (by lia)
/-- the least of all others, where the two least ones are o0 and o1 -/
def oth (o0 o1 c : Int) : Int := if c == o0 then o1 else o0
structure Inv (o0 o1 : Int) (S : List Int) : Prop where
  pos : 0 ≤ o0
  le : o0 ≤ o1
  all : ∀ x ∈ S, o0 ≤ x
  two : S.Pairwise fun x y => o1 ≤ x ∨ o1 ≤ y
theorem Inv.perm {o0 o1 : Int} {S T : List Int} (h : Inv o0 o1 S) (p : S.Perm T) : Inv o0 o1 T :=
  ⟨h.pos, h.le, fun x hx => h.all x (p.mem_iff.mpr hx), (p.pairwise_iff fun {x y} h => h.symm).mp h.two⟩
theorem Inv.step {L : Nat} {o0 o1 c g v : Int} {S : List Int} (h : Inv o0 o1 (c :: g :: S)) (hcg : c ≤ g) (hr : Reach L (c :: g :: S) v) : Inv o0 o1 ((c + g) :: S) ∧ Reach L ((c + g) :: S) (v - (c + oth o0 o1 c)) := by
  have hc := h.all c (mem_cons_self ..)
  have hp := h.pos
  have hg := h.all g (mem_cons_of_mem _ (mem_cons_self ..))
  have h2 := pairwise_cons.mp h.two
  have h3 := pairwise_cons.mp h2.2
  have ho : ∀ x ∈ g :: S, oth o0 o1 c ≤ x := fun x hx => by
    unfold oth
    have hx0 := h.all x (mem_cons_of_mem _ hx)
    by_cases hc0 : c = o0
    · rw [if_pos (by simp [hc0])]
      rcases h2.1 x hx with h | h
      · lia
      · exact h
    · rw [if_neg (by simp [hc0])]; exact hx0
  refine ⟨⟨hp, h.le, fun x hx => ?_, pairwise_cons.mpr ⟨fun x hx => ?_, h3.2⟩⟩, ?_⟩
  · rcases mem_cons.mp hx with h4 | h4
    · lia
    · exact h.all x (mem_cons_of_mem _ (mem_cons_of_mem _ h4))
  · rcases h3.1 x hx with h4 | h4
    · exact .inl (by lia)
    · exact .inr h4
  · refine (hr.merge (mn := oth o0 o1 c) (by lia) hcg (ho g (mem_cons_self ..)) fun y hy => ⟨?_, ho y (mem_cons_of_mem _ hy)⟩).mono (by lia)
    have := h.all y (mem_cons_of_mem _ (mem_cons_of_mem _ hy)); lia
def savO (o0 o1 : Int) (ps : List Int) : Int := (ps.map fun c => c + oth o0 o1 c).sum
theorem Inv.group {L : Nat} {o0 o1 : Int} : ∀ (ps : List Int) {g v : Int} {S : List Int}, Inv o0 o1 (ps ++ g :: S) → (∀ c ∈ ps, c ≤ g) → Reach L (ps ++ g :: S) v →
    Inv o0 o1 ((ps.sum + g) :: S) ∧ Reach L ((ps.sum + g) :: S) (v - savO o0 o1 ps)
  | [], g, v, S, h, _, hr => by simpa [savO] using ⟨h, hr⟩
  | c :: ps, g, v, S, h, hle, hr => by
    have hp : ((c :: ps) ++ g :: S).Perm (c :: g :: (ps ++ S)) := perm_middle.cons c
    obtain ⟨h1, h2⟩ := (h.perm hp).step (hle c (mem_cons_self ..)) (hr.perm hp)
    have hp2 : ((c + g) :: (ps ++ S)).Perm (ps ++ (c + g) :: S) := perm_middle.symm
    have hc : 0 ≤ c := by have := h.all c (by simp); have := h.pos; lia
    obtain ⟨h3, h4⟩ := Inv.group ps (h1.perm hp2) (fun x hx => by have := hle x (mem_cons_of_mem _ hx); lia) (h2.perm hp2)
    have e : ps.sum + (c + g) = (c :: ps).sum + g := by rw [sum_cons]; lia
    rw [e] at h3 h4
    refine ⟨h3, h4.mono ?_⟩
    simp only [savO, map_cons, sum_cons]; lia
end Mine
end

section
namespace Mine
open List
theorem sumN_le {α : Type} {f g : α → Nat} : ∀ {l : List α}, (∀ x ∈ l, f x ≤ g x) → (l.map f).sum ≤ (l.map g).sum
  | [], _ => Nat.le_refl _
  | a :: l, h => by
    have h1 := h a (mem_cons_self ..)
    have h2 := sumN_le (l := l) fun x hx => h x (mem_cons_of_mem _ hx)
    simp only [map_cons, sum_cons]; lia
theorem sumN_add {α : Type} (f g : α → Nat) : ∀ (l : List α), (l.map fun x => f x + g x).sum = (l.map f).sum + (l.map g).sum
  | [] => rfl
  | a :: l => by simp only [map_cons, sum_cons, sumN_add f g l]; lia
theorem sumN_mul {α : Type} (c : Nat) (f : α → Nat) : ∀ (l : List α), (l.map fun x => c * f x).sum = c * (l.map f).sum
  | [] => rfl
  | a :: l => by simp only [map_cons, sum_cons, sumN_mul c f l, Nat.mul_add]
theorem sumN_const {α : Type} (c : Nat) : ∀ (l : List α), (l.map fun _ => c).sum = l.length * c
  | [] => by simp
  | a :: l => by simp only [map_cons, sum_cons, sumN_const c l, length_cons, Nat.add_mul]; lia
theorem sumI_le {α : Type} {f g : α → Int} : ∀ {l : List α}, (∀ x ∈ l, f x ≤ g x) → (l.map f).sum ≤ (l.map g).sum
  | [], _ => Int.le_refl _
  | a :: l, h => by
    have h1 := h a (mem_cons_self ..)
    have h2 := sumI_le (l := l) fun x hx => h x (mem_cons_of_mem _ hx)
    simp only [map_cons, sum_cons]; lia
theorem sumI_add {α : Type} (f g : α → Int) : ∀ (l : List α), (l.map fun x => f x + g x).sum = (l.map f).sum + (l.map g).sum
  | [] => rfl
  | a :: l => by simp only [map_cons, sum_cons, sumI_add f g l]; lia
theorem sumI_mul {α : Type} (c : Int) (f : α → Int) : ∀ (l : List α), (l.map fun x => c * f x).sum = c * (l.map f).sum
  | [] => by simp
  | a :: l => by simp only [map_cons, sum_cons, sumI_mul c f l, Int.mul_add]
theorem sumI_nonneg {l : List Int} (h : ∀ x ∈ l, 0 ≤ x) : 0 ≤ l.sum := by
  have := sumI_le (f := fun _ => 0) (g := fun x => x) (l := l) h
  rw [map_id'] at this
  refine Int.le_trans ?_ this
  have : ∀ l : List Int, (l.map fun _ => (0 : Int)).sum = 0 := fun l => by induction l with
    | nil => rfl
    | cons a l ih => simp only [map_cons, sum_cons, ih]; rfl
  rw [this]; exact Int.le_refl _
abbrev Srt (l : List Int) : Prop := l.Pairwise (· ≤ ·)
theorem take_grow {w : Int} : ∀ {l : List Int} {b : Nat}, (∀ x ∈ l, w ≤ x) → b < l.length → w + (l.take b).sum ≤ (l.take (b + 1)).sum
  | [], b, _, h => by simp at h
  | a :: l, 0, h, _ => by have := h a (mem_cons_self ..); simp; lia
  | a :: l, b + 1, h, hb => by
    have := take_grow (l := l) (b := b) (fun x hx => h x (mem_cons_of_mem _ hx)) (by simp at hb; lia)
    simp only [take_succ_cons, sum_cons] at this ⊢; lia
theorem take_mono {l : List Int} (h : ∀ x ∈ l, 0 ≤ x) {a b : Nat} (hab : a ≤ b) : (l.take a).sum ≤ (l.take b).sum := by
  induction b with
  | zero => rw [show a = 0 by lia]; exact Int.le_refl _
  | succ b ih =>
    rcases Nat.lt_or_ge b a with h1 | h1
    · rw [show a = b + 1 by lia]; exact Int.le_refl _
    · refine Int.le_trans (ih h1) ?_
      rcases Nat.lt_or_ge b l.length with h2 | h2
      · have := take_grow h h2; lia
      · rw [take_of_length_le h2, take_of_length_le (by lia)]; exact Int.le_refl _
theorem mg_mem : ∀ (ws ps : List Int) (x : Int), x ∈ (mg ws ps).map (·.1) → x ∈ ws ∨ x ∈ ps
  | [], ps, x, h => by
    rw [mg_nil, map_map] at h
    right
    obtain ⟨p, hp, rfl⟩ := mem_map.mp h
    exact hp
  | w :: ws, [], x, h => by
    rw [mg_cons_nil, map_cons] at h
    rcases mem_cons.mp h with h | h
    · left; rw [h]; exact mem_cons_self ..
    · rcases mg_mem ws [] x h with h | h
      · exact .inl (mem_cons_of_mem _ h)
      · exact .inr h
  | w :: ws, p :: ps, x, h => by
    rw [mg_cons_cons] at h
    split at h
    · rw [map_cons] at h
      rcases mem_cons.mp h with h | h
      · left; rw [h]; exact mem_cons_self ..
      · rcases mg_mem ws (p :: ps) x h with h | h
        · exact .inl (mem_cons_of_mem _ h)
        · exact .inr h
    · rw [map_cons] at h
      rcases mem_cons.mp h with h | h
      · right; rw [h]; exact mem_cons_self ..
      · rcases mg_mem (w :: ws) ps x h with h | h
        · exact .inl h
        · exact .inr (mem_cons_of_mem _ h)
theorem mg_srt : ∀ (ws ps : List Int), Srt ws → Srt ps → Srt ((mg ws ps).map (·.1))
  | [], ps, _, h => by rw [mg_nil, map_map]; simpa [Function.comp_def] using h
  | w :: ws, [], h, hp => by
    rw [mg_cons_nil, map_cons]
    have h' := pairwise_cons.mp h
    refine pairwise_cons.mpr ⟨fun x hx => ?_, mg_srt ws [] h'.2 hp⟩
    rcases mg_mem _ _ _ hx with h3 | h3
    · exact h'.1 x h3
    · cases h3
  | w :: ws, p :: ps, h, hp => by
    rw [mg_cons_cons]
    have h' := pairwise_cons.mp h
    have hp' := pairwise_cons.mp hp
    split
    next hwp =>
      refine pairwise_cons.mpr ⟨fun x hx => ?_, mg_srt ws (p :: ps) h'.2 hp⟩
      show w ≤ x
      rcases mg_mem _ _ _ hx with h3 | h3
      · exact h'.1 x h3
      · rcases mem_cons.mp h3 with h3 | h3
        · lia
        · have := hp'.1 x h3; lia
    next hwp =>
      refine pairwise_cons.mpr ⟨fun x hx => ?_, mg_srt (w :: ws) ps h hp'.2⟩
      show p ≤ x
      rcases mg_mem _ _ _ hx with h3 | h3
      · rcases mem_cons.mp h3 with h3 | h3
        · lia
        · have := h'.1 x h3; lia
      · exact hp'.1 x h3
theorem mg_min : ∀ (ws ps : List Int) (a b : Nat), Srt ws → Srt ps → a ≤ ws.length → b ≤ ps.length → (((mg ws ps).map (·.1)).take (a + b)).sum ≤ (ws.take a).sum + (ps.take b).sum
  | [], ps, a, b, _, _, ha, _ => by
    have : a = 0 := by simpa using ha
    subst this
    rw [mg_nil, map_map]
    have e : (ps.map ((fun x : Int × Bool => x.1) ∘ fun p => (p, false))) = ps := by simp [Function.comp_def]
    rw [e]; simp
  | w :: ws, [], 0, b, _, _, _, hb => by
    have : b = 0 := by simpa using hb
    subst this; simp
  | w :: ws, [], a + 1, b, h, hp, ha, hb => by
    have := mg_min ws [] a b (pairwise_cons.mp h).2 hp (by simpa using ha) hb
    rw [mg_cons_nil, map_cons, show a + 1 + b = (a + b) + 1 by lia, take_succ_cons, take_succ_cons, sum_cons, sum_cons]; lia
  | w :: ws, p :: ps, a, b, h, hp, ha, hb => by
    have h' := pairwise_cons.mp h
    have hp' := pairwise_cons.mp hp
    rw [mg_cons_cons]
    split
    next hwp =>
      rw [map_cons]
      match a, b, ha, hb with
      | a + 1, b, ha, hb =>
        have := mg_min ws (p :: ps) a b h'.2 hp (by simpa using ha) hb
        rw [show a + 1 + b = (a + b) + 1 by lia, take_succ_cons, take_succ_cons, sum_cons, sum_cons]; lia
      | 0, 0, _, _ => simp
      | 0, b + 1, _, hb =>
        have := mg_min ws (p :: ps) 0 b h'.2 hp (Nat.zero_le _) (by lia)
        have h2 := take_grow (w := w) (l := p :: ps) (b := b) (fun x hx => by
          rcases mem_cons.mp hx with h3 | h3
          · lia
          · have := hp'.1 x h3; lia) (by lia)
        rw [show 0 + (b + 1) = (0 + b) + 1 by lia, take_succ_cons, sum_cons]
        simp only [take_zero, sum_nil] at this ⊢; lia
    next hwp =>
      rw [map_cons]
      match a, b, ha, hb with
      | a, b + 1, ha, hb =>
        have := mg_min (w :: ws) ps a b h hp'.2 ha (by simpa using hb)
        rw [show a + (b + 1) = (a + b) + 1 by lia, take_succ_cons, take_succ_cons, sum_cons, sum_cons]; lia
      | 0, 0, _, _ => simp
      | a + 1, 0, ha, _ =>
        have := mg_min (w :: ws) ps a 0 h hp'.2 (by lia) (Nat.zero_le _)
        have h2 := take_grow (w := p) (l := w :: ws) (b := a) (fun x hx => by
          rcases mem_cons.mp hx with h3 | h3
          · lia
          · have := h'.1 x h3; lia) (by lia)
        rw [Nat.add_zero, take_succ_cons (a := p), sum_cons]
        simp only [take_zero, sum_nil, Nat.add_zero] at this ⊢; lia
theorem mg_take : ∀ (ws ps : List Int) (m : Nat), m ≤ ws.length + ps.length →
    (((mg ws ps).map fun p : Int × Bool => p.2).take m).count true ≤ ws.length ∧ (((mg ws ps).map fun p : Int × Bool => p.2).take m).count true ≤ m ∧ m - (((mg ws ps).map fun p : Int × Bool => p.2).take m).count true ≤ ps.length ∧
    (((mg ws ps).map fun p : Int × Bool => p.1).take m).sum = (ws.take ((((mg ws ps).map fun p : Int × Bool => p.2).take m).count true)).sum + (ps.take (m - (((mg ws ps).map fun p : Int × Bool => p.2).take m).count true)).sum
  | ws, ps, 0, _ => by simp
  | [], ps, m + 1, h => by
    have e : ((mg [] ps).map fun p : Int × Bool => p.1) = ps := by rw [mg_nil, map_map]; simp [Function.comp_def]
    have e2 : (((mg [] ps).map fun p : Int × Bool => p.2).take (m + 1)).count true = 0 := by
      rw [mg_nil, map_map, count_eq_zero]
      intro hm
      obtain ⟨p, _, hp⟩ := mem_map.mp (mem_of_mem_take hm)
      cases hp
    rw [e, e2]; simp at h ⊢; lia
  | w :: ws, [], m + 1, h => by
    obtain ⟨h1, h2, h3, h4⟩ := mg_take ws [] m (by simp at h ⊢; lia)
    rw [mg_cons_nil, map_cons, map_cons, take_succ_cons, take_succ_cons, count_cons_self, sum_cons, h4, take_succ_cons, sum_cons, Nat.add_sub_add_right]
    refine ⟨by simpa using h1, by lia, h3, by lia⟩
  | w :: ws, p :: ps, m + 1, h => by
    rw [mg_cons_cons]
    split
    · obtain ⟨h1, h2, h3, h4⟩ := mg_take ws (p :: ps) m (by simp at h ⊢; lia)
      rw [map_cons, map_cons, take_succ_cons, take_succ_cons, count_cons_self, sum_cons, h4, take_succ_cons, sum_cons, Nat.add_sub_add_right]
      refine ⟨by simpa using h1, by lia, h3, by lia⟩
    · obtain ⟨h1, h2, h3, h4⟩ := mg_take (w :: ws) ps m (by simp at h ⊢; lia)
      rw [map_cons, map_cons, take_succ_cons, take_succ_cons, count_cons_of_ne (by simp), sum_cons, h4]
      generalize (((mg (w :: ws) ps).map fun p : Int × Bool => p.2).take m).count true = t at h1 h2 h3 h4 ⊢
      rw [show m + 1 - t = (m - t) + 1 by lia, take_succ_cons, sum_cons]
      refine ⟨h1, by lia, by simp; lia, by lia⟩
theorem pairsI_ge {c : Int} : ∀ (l : List Int), (∀ x ∈ l, c ≤ x) → ∀ y ∈ pairsI l, 2 * c ≤ y
  | [], _, y, h => nomatch h
  | [_], _, y, h => by simp [pairsI] at h
  | a :: b :: r, hl, y, h => by
    have ha := hl a (by simp)
    have hb := hl b (by simp)
    have h : y ∈ (a + b) :: pairsI r := h
    rcases mem_cons.mp h with h | h
    · lia
    · exact pairsI_ge r (fun x hx => hl x (by simp [hx])) y h
theorem pairsI_srt : ∀ (l : List Int), Srt l → Srt (pairsI l)
  | [], _ => .nil
  | [_], _ => by simp [pairsI]
  | a :: b :: r, h => by
    have h1 := pairwise_cons.mp h
    have h2 := pairwise_cons.mp h1.2
    show Srt ((a + b) :: pairsI r)
    refine pairwise_cons.mpr ⟨fun y hy => ?_, pairsI_srt r h2.2⟩
    have := pairsI_ge r h2.1 y hy
    have := h1.1 b (mem_cons_self ..)
    lia
theorem pairsI_take : ∀ (l : List Int) (b : Nat), 2 * b ≤ l.length → ((pairsI l).take b).sum = (l.take (2 * b)).sum
  | l, 0, _ => by simp
  | [], b + 1, h => by simp at h
  | [_], b + 1, h => by simp at h; lia
  | x :: y :: r, b + 1, h => by
    have := pairsI_take r b (by simp at h; lia)
    show (((x + y) :: pairsI r).take (b + 1)).sum = _
    rw [take_succ_cons, sum_cons, this, show 2 * (b + 1) = 2 * b + 1 + 1 by lia, take_succ_cons, take_succ_cons, sum_cons, sum_cons]; lia
def vals (ws : List Int) (k : Nat) : List Int := (rowK ws k).map (·.1)
theorem vals_succ (ws : List Int) (k : Nat) : vals ws (k + 1) = (mg ws (pairsI (vals ws k))).map (·.1) := rfl
theorem vals_len (ws : List Int) (k : Nat) : (vals ws (k + 1)).length = ws.length + (vals ws k).length / 2 := by
  rw [vals_succ, length_map, mg_len, pairsI_len]
theorem vals_srt {ws : List Int} (h : Srt ws) : ∀ k, Srt (vals ws k)
  | 0 => .nil
  | k + 1 => by rw [vals_succ]; exact mg_srt _ _ h (pairsI_srt _ (vals_srt h k))
/-- how many lengths reach the level -/
def nsL (L : Nat) (X : Cd) (r : Nat) : Nat := X.countP fun x => decide (L ≤ x.2 + r)
def vL (L : Nat) (X : Cd) : Nat → Nat
  | 0 => 0
  | r + 1 => nsL L X r + vL L X r / 2
def tL (L : Nat) (X : Cd) : Nat → Int
  | 0 => 0
  | r + 1 => ((wts X).take (nsL L X r)).sum + tL L X r
theorem nsL_le (L : Nat) (X : Cd) (r : Nat) : nsL L X r ≤ (wts X).length := by
  unfold nsL wts; rw [length_map]; exact countP_le_length
theorem low (L : Nat) (X : Cd) (hs : Srt (wts X)) (h0 : ∀ w ∈ wts X, 0 ≤ w) : ∀ r, vL L X r ≤ (vals (wts X) r).length ∧ ∀ m, m ≤ vL L X r → ((vals (wts X) r).take m).sum ≤ tL L X r
  | 0 => ⟨Nat.zero_le _, fun m hm => by rw [show m = 0 by simpa [vL] using hm]; exact Int.le_refl _⟩
  | r + 1 => by
    obtain ⟨h1, h2⟩ := low L X hs h0 r
    have hn := nsL_le L X r
    refine ⟨?_, fun m hm => ?_⟩
    · rw [vals_len]; show nsL L X r + _ ≤ _; lia
    · have hm : m ≤ nsL L X r + vL L X r / 2 := hm
      have e : m = min m (nsL L X r) + (m - min m (nsL L X r)) := by lia
      generalize ha : min m (nsL L X r) = a at e
      generalize hb : m - a = b at e
      have hb2 : 2 * b ≤ vL L X r := by lia
      have h3 := mg_min (wts X) (pairsI (vals (wts X) r)) a b hs (pairsI_srt _ (vals_srt hs r)) (by lia) (by rw [pairsI_len]; lia)
      rw [pairsI_take _ b (by lia)] at h3
      have h4 := h2 (2 * b) hb2
      have h5 := take_mono h0 (show a ≤ nsL L X r by lia)
      rw [vals_succ, e]
      show _ ≤ ((wts X).take (nsL L X r)).sum + tL L X r
      lia
def xL (L : Nat) (X : Cd) : Nat → Nat
  | 0 => 0
  | r + 1 => nsL L X r * 2 ^ r + xL L X r
theorem vL_half (L : Nat) (X : Cd) : ∀ r, vL L X r / 2 = xL L X r / 2 ^ r ∧ vL L X (r + 1) = xL L X (r + 1) / 2 ^ r
  | 0 => ⟨by simp [vL, xL], by simp [vL, xL]⟩
  | r + 1 => by
    have h1 := (vL_half L X r).2
    have h2 : vL L X (r + 1) / 2 = xL L X (r + 1) / 2 ^ (r + 1) := by rw [h1, Nat.div_div_eq_div_mul, Nat.pow_succ]
    refine ⟨h2, ?_⟩
    show nsL L X (r + 1) + vL L X (r + 1) / 2 = (nsL L X (r + 1) * 2 ^ (r + 1) + xL L X (r + 1)) / 2 ^ (r + 1)
    rw [h2, Nat.add_comm (nsL L X (r + 1) * _), Nat.add_mul_div_right _ _ (Nat.two_pow_pos _), Nat.add_comm]
def xOne (L l : Nat) : Nat → Nat
  | 0 => 0
  | r + 1 => (if L ≤ l + r then 2 ^ r else 0) + xOne L l r
theorem xOne_eq (L l : Nat) : ∀ r, xOne L l r + 2 ^ (min r (L - l)) = 2 ^ r
  | 0 => by simp [xOne]
  | r + 1 => by
    have := xOne_eq L l r
    unfold xOne
    split
    · rw [show min (r + 1) (L - l) = min r (L - l) by lia, Nat.pow_succ]; lia
    · rw [show min (r + 1) (L - l) = r + 1 by lia]
      rw [show min r (L - l) = r by lia] at this; lia
theorem xL_sum (L : Nat) : ∀ (X : Cd) (r : Nat), xL L X r = (X.map fun x => xOne L x.2 r).sum
  | X, 0 => by
    have := sumN_const 0 X
    simp only [xL, xOne]; lia
  | X, r + 1 => by
    have ih := xL_sum L X r
    have e : nsL L X r * 2 ^ r = (X.map fun x => if L ≤ x.2 + r then 2 ^ r else 0).sum := by
      clear ih
      induction X with
      | nil => simp [nsL]
      | cons x X ih =>
        unfold nsL at ih ⊢
        rw [countP_cons, map_cons, sum_cons, Nat.add_mul, ih]
        by_cases h : L ≤ x.2 + r
        · simp only [h, decide_true, if_true]; lia
        · simp only [h, decide_false, if_false]; simp
    unfold xL
    rw [e, ih]
    simp only [xOne]
    rw [sumN_add]
theorem xL_top {L : Nat} {X : Cd} : xL L X L + kr L X = X.length * 2 ^ L := by
  rw [xL_sum, kr, ← sumN_add, ← sumN_const (2 ^ L) X]
  congr 1
  refine map_congr_left fun x _ => ?_
  have := xOne_eq L x.2 L
  rwa [show min L (L - x.2) = L - x.2 by lia] at this
theorem sub_sum {p : Int × Nat → Bool} : ∀ {X : Cd}, Srt (wts X) → ((wts X).take (X.countP p)).sum ≤ ((X.map fun x => if p x then x.1 else 0)).sum
  | [], _ => Int.le_refl _
  | x :: X, h => by
    rw [wts_cons] at h
    have h' := pairwise_cons.mp h
    have ih := sub_sum (p := p) h'.2
    rw [wts_cons, countP_cons, map_cons, sum_cons]
    by_cases hp : p x = true
    · simp only [hp, if_true]
      rw [take_succ_cons, sum_cons]; lia
    · simp only [hp, if_false, Nat.add_zero, Bool.false_eq_true, Int.zero_add]
      refine Int.le_trans ?_ ih
      have hc : X.countP p ≤ (wts X).length := by unfold wts; rw [length_map]; exact countP_le_length
      generalize X.countP p = c at hc ih ⊢
      cases c with
      | zero => simp
      | succ c =>
        rw [take_succ_cons, sum_cons]
        exact take_grow h'.1 hc
theorem tL_le (L : Nat) (X : Cd) (hs : Srt (wts X)) : ∀ r, tL L X r ≤ (X.map fun x => x.1 * ((r - (L - x.2) : Nat) : Int)).sum
  | 0 => by
    have : (X.map fun x => x.1 * ((0 - (L - x.2) : Nat) : Int)) = X.map fun x => (0 : Int) * x.1 := map_congr_left fun x _ => by simp
    rw [this, sumI_mul]; simp [tL]
  | r + 1 => by
    have ih := tL_le L X hs r
    have h1 := sub_sum (p := fun x => decide (L ≤ x.2 + r)) hs
    show ((wts X).take (X.countP _)).sum + _ ≤ _
    have e : (X.map fun x => x.1 * ((r + 1 - (L - x.2) : Nat) : Int)) = X.map fun x => (if decide (L ≤ x.2 + r) = true then x.1 else 0) + x.1 * ((r - (L - x.2) : Nat) : Int) := map_congr_left fun x _ => by
      by_cases h : L ≤ x.2 + r
      · simp only [h, decide_true, if_true]
        rw [show r + 1 - (L - x.2) = (r - (L - x.2)) + 1 by lia, Int.natCast_add, Int.mul_add]; simp; lia
      · simp only [h, decide_false]
        rw [show r + 1 - (L - x.2) = 0 by lia, show r - (L - x.2) = 0 by lia]; simp
    rw [e, sumI_add]; lia
/-- package-merge gives no more than any code -/
theorem low_bound {L : Nat} {X : Cd} (hL : 1 ≤ L) (hs : Srt (wts X)) (h0 : ∀ w ∈ wts X, 0 ≤ w) (hX : Ok L X) :
    2 * X.length - 2 ≤ (vals (wts X) L).length ∧ ((vals (wts X) L).take (2 * X.length - 2)).sum ≤ cost X := by
  obtain ⟨h1, h2⟩ := low L X hs h0 L
  have hv : 2 * X.length - 2 ≤ vL L X L := by
    obtain ⟨r, rfl⟩ : ∃ r, L = r + 1 := ⟨L - 1, by lia⟩
    rw [(vL_half (r + 1) X r).2, Nat.le_div_iff_mul_le (Nat.two_pow_pos _)]
    have := xL_top (L := r + 1) (X := X)
    have hk := hX.kr
    rw [Nat.pow_succ] at this hk
    have e : (2 * X.length - 2) * 2 ^ r = X.length * (2 ^ r * 2) - 2 * 2 ^ r := by
      rw [Nat.sub_mul, Nat.mul_comm (2 ^ r) 2, ← Nat.mul_assoc, Nat.mul_comm X.length 2]
    lia
  refine ⟨by lia, Int.le_trans (h2 _ hv) (Int.le_trans (tL_le L X hs L) ?_)⟩
  unfold cost
  refine sumI_le fun x hx => ?_
  have := hX.le x hx
  rw [show L - (L - x.2) = x.2 by lia]; exact Int.le_refl _
end Mine
end

section
namespace Mine
open List
def flg (ws : List Int) (k : Nat) : List Bool := (rowK ws k).map (·.2)
/-- how many leaves are taken in the row -/
def tk (ws : List Int) (k m : Nat) : Nat := ((flg ws k).take m).count true
def eB (ws : List Int) : Nat → Nat → Nat → Nat
  | 0, _, _ => 0
  | k + 1, m, i => (if i < tk ws (k + 1) m then 1 else 0) + eB ws k (2 * (m - tk ws (k + 1) m)) i
theorem rowsB_succ (ws : List Int) (k : Nat) : (rowsB ws (k + 1)).reverse = flg ws (k + 1) :: (rowsB ws k).reverse := by
  unfold rowsB
  rw [range_succ, map_append, reverse_append]; rfl
theorem incN_map (t : Nat) (ds : List Int) : incN t ds = ds.mapIdx fun i d => d + if i < t then 1 else 0 := by
  apply ext_getElem?
  intro i
  unfold incN
  rw [getElem?_mapIdx]
  by_cases h : i < ds.length
  · by_cases h2 : i < t
    · rw [getElem?_append_left (by simp; lia), getElem?_map, getElem?_take_of_lt h2, getElem?_eq_getElem h]
      simp [h2]
    · rw [getElem?_append_right (by simp; lia), getElem?_drop, length_map, length_take]
      rw [show t + (i - min t ds.length) = i by lia, getElem?_eq_getElem h]
      simp [h2]
  · rw [getElem?_eq_none (l := ds) (by lia), getElem?_eq_none (by simp; lia)]; rfl
theorem fold_eB (ws : List Int) : ∀ (k : Nat) (ds : List Int) (m : Nat), ((rowsB ws k).reverse.foldl btStep (ds, m)).1 = ds.mapIdx fun i d => d + (eB ws k m i : Int)
  | 0, ds, m => by
    show ds = _
    apply ext_getElem?
    intro i
    rw [getElem?_mapIdx]
    cases ds[i]? <;> simp [eB]
  | k + 1, ds, m => by
    rw [rowsB_succ, foldl_cons]
    show ((rowsB ws k).reverse.foldl btStep (incN (tk ws (k + 1) m) ds, 2 * (m - tk ws (k + 1) m))).1 = _
    rw [fold_eB ws k, incN_map]
    apply ext_getElem?
    intro i
    rw [getElem?_mapIdx, getElem?_mapIdx, getElem?_mapIdx]
    cases ds[i]? with
    | none => rfl
    | some d =>
      simp only [Option.map_some, eB]
      split <;> simp <;> lia
/-- the code that package-merge gives -/
def pcode (ws : List Int) (L : Nat) : Cd := ws.zipIdx.map fun p => (p.1, eB ws L (2 * ws.length - 2) p.2)
theorem pkg_code (ws : List Int) (L : Nat) : pkg ws L = (pcode ws L).map fun x => (x.2 : Int) := by
  unfold pkg
  rw [fold_eB]
  apply ext_getElem?
  intro i
  unfold pcode
  rw [getElem?_mapIdx, map_map, getElem?_map, getElem?_zipIdx, getElem?_replicate]
  by_cases h : i < ws.length
  · rw [if_pos h, getElem?_eq_getElem h]; simp
  · rw [if_neg h, getElem?_eq_none (l := ws) (by lia)]; simp
theorem pcode_wts (ws : List Int) (L : Nat) : wts (pcode ws L) = ws := by
  unfold wts pcode
  rw [map_map]
  exact zipIdx_map_fst 0 ws
theorem tk_facts (ws : List Int) (k m : Nat) (h : m ≤ (vals ws (k + 1)).length) : tk ws (k + 1) m ≤ ws.length ∧ tk ws (k + 1) m ≤ m ∧ 2 * (m - tk ws (k + 1) m) ≤ (vals ws k).length ∧
    ((vals ws (k + 1)).take m).sum = (ws.take (tk ws (k + 1) m)).sum + ((vals ws k).take (2 * (m - tk ws (k + 1) m))).sum := by
  have h' : m ≤ ws.length + (pairsI (vals ws k)).length := by rw [vals_len] at h; rw [pairsI_len]; exact h
  obtain ⟨h1, h2, h3, h4⟩ := mg_take ws (pairsI (vals ws k)) m h'
  have e : tk ws (k + 1) m = ((((mg ws (pairsI (vals ws k))).map fun p : Int × Bool => p.2).take m).count true) := rfl
  rw [← e] at h1 h2 h3 h4
  rw [pairsI_len] at h3
  have h5 : 2 * (m - tk ws (k + 1) m) ≤ (vals ws k).length := by lia
  refine ⟨h1, h2, h5, ?_⟩
  rw [← pairsI_take _ _ h5, ← h4]; rfl
theorem sum_first : ∀ (ws : List Int) (j t : Nat), ((ws.zipIdx j).map fun p => if p.2 < j + t then p.1 else 0).sum = (ws.take t).sum
  | [], j, t => by simp
  | w :: ws, j, 0 => by
    have ih := sum_first ws (j + 1) 0
    rw [zipIdx_cons, map_cons, sum_cons]
    have e : ((ws.zipIdx (j + 1)).map fun p => if p.2 < j + 0 then p.1 else 0) = (ws.zipIdx (j + 1)).map fun p => if p.2 < j + 1 + 0 then p.1 else 0 := map_congr_left fun p hp => by
      have := mem_zipIdx hp
      rw [if_neg (by lia), if_neg (by lia)]
    rw [e, ih]; simp
  | w :: ws, j, t + 1 => by
    have ih := sum_first ws (j + 1) t
    rw [zipIdx_cons, map_cons, sum_cons, take_succ_cons, sum_cons, ← ih]
    rw [if_pos (by simp only; lia)]
    simp only [show j + (t + 1) = j + 1 + t by lia]
theorem num_first : ∀ (ws : List Int) (j t : Nat), t ≤ ws.length → ((ws.zipIdx j).map fun p => if p.2 < j + t then 1 else 0).sum = t
  | [], j, t, h => by simp at h ⊢; lia
  | w :: ws, j, 0, _ => by
    have ih := num_first ws (j + 1) 0 (Nat.zero_le _)
    rw [zipIdx_cons, map_cons, sum_cons]
    have e : ((ws.zipIdx (j + 1)).map fun p => if p.2 < j + 0 then 1 else 0) = (ws.zipIdx (j + 1)).map fun p => if p.2 < j + 1 + 0 then 1 else 0 := map_congr_left fun p hp => by
      have := mem_zipIdx hp
      rw [if_neg (by lia), if_neg (by lia)]
    rw [e, ih]; simp
  | w :: ws, j, t + 1, h => by
    have ih := num_first ws (j + 1) t (by simpa using h)
    rw [zipIdx_cons, map_cons, sum_cons]
    rw [if_pos (by simp only; lia)]
    simp only [show j + (t + 1) = j + 1 + t by lia]
    lia
theorem eB_cost (ws : List Int) : ∀ (k m : Nat), m ≤ (vals ws k).length → (ws.zipIdx.map fun p => p.1 * (eB ws k m p.2 : Int)).sum = ((vals ws k).take m).sum
  | 0, m, _ => by
    have : (ws.zipIdx.map fun p => p.1 * (eB ws 0 m p.2 : Int)) = ws.zipIdx.map fun p => (0 : Int) * p.1 := map_congr_left fun p _ => by simp [eB]
    rw [this, sumI_mul]; simp [vals, rowK]
  | k + 1, m, h => by
    obtain ⟨h1, h2, h3, h4⟩ := tk_facts ws k m h
    have ih := eB_cost ws k _ h3
    rw [h4, ← ih, ← sum_first ws 0, ← sumI_add]
    congr 1
    refine map_congr_left fun p _ => ?_
    simp only [eB, Nat.zero_add]
    rw [Int.natCast_add, Int.mul_add]
    split <;> simp
theorem eB_le (ws : List Int) (i : Nat) : ∀ (k m : Nat), eB ws k m i ≤ k
  | 0, m => Nat.le_refl _
  | k + 1, m => by
    have := eB_le ws i k (2 * (m - tk ws (k + 1) m))
    unfold eB
    split <;> lia
theorem eB_kr (ws : List Int) : ∀ (k m : Nat), m ≤ (vals ws k).length → m * 2 ^ k + 2 * (ws.zipIdx.map fun p => 2 ^ (k - eB ws k m p.2)).sum ≤ 2 * (ws.length * 2 ^ k)
  | 0, m, h => by
    have : m = 0 := by simpa [vals, rowK] using h
    subst this
    have : (ws.zipIdx.map fun p => 2 ^ (0 - eB ws 0 0 p.2)) = ws.zipIdx.map fun _ => 1 := map_congr_left fun p _ => by simp
    rw [this, sumN_const]; simp
  | k + 1, m, h => by
    obtain ⟨h1, h2, h3, h4⟩ := tk_facts ws k m h
    have ih := eB_kr ws k _ h3
    have hn := num_first ws 0 (tk ws (k + 1) m) h1
    have hle : (ws.zipIdx.map fun p => 2 ^ (k + 1 - eB ws (k + 1) m p.2) + 2 ^ k * (if p.2 < 0 + tk ws (k + 1) m then 1 else 0)).sum ≤
        (ws.zipIdx.map fun p => 2 ^ (k - eB ws k (2 * (m - tk ws (k + 1) m)) p.2) + 2 ^ k).sum := sumN_le fun p _ => by
      have he := eB_le ws p.2 k (2 * (m - tk ws (k + 1) m))
      simp only [eB, Nat.zero_add]
      generalize eB ws k (2 * (m - tk ws (k + 1) m)) p.2 = e at he
      split
      · rw [show k + 1 - (1 + e) = k - e by lia]; lia
      · rw [show k + 1 - (0 + e) = (k - e) + 1 by lia, Nat.pow_succ]
        have : 2 ^ (k - e) ≤ 2 ^ k := Nat.pow_le_pow_right (by lia) (by lia)
        lia
    rw [sumN_add, sumN_add, sumN_const, sumN_mul, hn, length_zipIdx] at hle
    generalize tk ws (k + 1) m = t at h1 h2 h3 h4 ih hn hle
    generalize (ws.zipIdx.map fun p => 2 ^ (k + 1 - eB ws (k + 1) m p.2)).sum = A at hle ⊢
    generalize (ws.zipIdx.map fun p => 2 ^ (k - eB ws k (2 * (m - t)) p.2)).sum = B at hle ih
    rw [Nat.pow_succ]
    have e1 : 2 * (m - t) * 2 ^ k = 2 * (m * 2 ^ k) - 2 * (t * 2 ^ k) := by
      rw [Nat.mul_assoc, Nat.sub_mul, Nat.mul_sub]
    have e2 : t * 2 ^ k ≤ m * 2 ^ k := Nat.mul_le_mul_right _ h2
    have e3 : m * (2 ^ k * 2) = 2 * (m * 2 ^ k) := by rw [← Nat.mul_assoc]; lia
    have e4 : ws.length * (2 ^ k * 2) = 2 * (ws.length * 2 ^ k) := by rw [← Nat.mul_assoc]; lia
    rw [Nat.mul_comm (2 ^ k) t] at hle
    lia
/-- package-merge gives a least code -/
theorem pkg_best {ws : List Int} {L : Nat} (hs : Srt ws) (h0 : ∀ w ∈ ws, 0 ≤ w) (h2 : 2 ≤ ws.length) (hn : ws.length ≤ 2 ^ L) :
    Ok L (pcode ws L) ∧ ∀ Y, wts Y = ws → Ok L Y → cost (pcode ws L) ≤ cost Y := by
  have hL : 1 ≤ L := by
    rcases Nat.eq_zero_or_pos L with h | h
    · rw [h] at hn; lia
    · exact h
  have hY0 : Ok L (ws.map fun w => (w, L)) := ⟨fun x hx => by
    obtain ⟨w, _, rfl⟩ := mem_map.mp hx
    exact Nat.le_refl _, by
    unfold kr
    rw [map_map]
    have : ((fun x : Int × Nat => 2 ^ (L - x.2)) ∘ fun w : Int => (w, L)) = fun _ => 1 := by funext w; simp
    rw [this, sumN_const]; lia⟩
  have hw0 : wts (ws.map fun w => (w, L)) = ws := by unfold wts; rw [map_map]; simp [Function.comp_def]
  obtain ⟨l1, l2⟩ := low_bound hL (by rw [hw0]; exact hs) (by rw [hw0]; exact h0) hY0
  rw [hw0, length_map] at l1
  have hc : cost (pcode ws L) = ((vals ws L).take (2 * ws.length - 2)).sum := by
    rw [← eB_cost ws L _ l1]
    unfold cost pcode
    rw [map_map]; rfl
  refine ⟨⟨fun x hx => ?_, ?_⟩, fun Y hY hO => ?_⟩
  · unfold pcode at hx
    obtain ⟨p, _, rfl⟩ := mem_map.mp hx
    exact eB_le _ _ _ _
  · have hk := eB_kr ws L _ l1
    have e : kr L (pcode ws L) = (ws.zipIdx.map fun p => 2 ^ (L - eB ws L (2 * ws.length - 2) p.2)).sum := by
      unfold kr pcode; rw [map_map]; rfl
    rw [← e] at hk
    have e2 : (2 * ws.length - 2) * 2 ^ L = 2 * (ws.length * 2 ^ L) - 2 * 2 ^ L := by rw [Nat.sub_mul, Nat.mul_assoc]
    have : 2 ^ L ≤ ws.length * 2 ^ L := Nat.le_mul_of_pos_left _ (by lia)
    lia
  · obtain ⟨_, h4⟩ := low_bound hL (by rw [hY]; exact hs) (by rw [hY]; exact h0) hO
    have hl : Y.length = ws.length := by rw [← hY]; unfold wts; rw [length_map]
    rw [hY, hl] at h4
    rw [hc]; exact h4
end Mine
end

section
namespace Mine
open List
abbrev setF (acc : List Int) (p : (Int × Int) × Int) : List Int := acc.set p.1.2.toNat p.2
theorem setF_len : ∀ (z : List ((Int × Int) × Int)) (acc : List Int), (z.foldl setF acc).length = acc.length
  | [], _ => rfl
  | p :: z, acc => by rw [foldl_cons, setF_len z]; exact length_set
theorem setF_ne {i : Nat} : ∀ (z : List ((Int × Int) × Int)) (acc : List Int), (∀ p ∈ z, p.1.2.toNat ≠ i) → (z.foldl setF acc)[i]? = acc[i]?
  | [], _, _ => rfl
  | p :: z, acc, h => by
    rw [foldl_cons, setF_ne z _ fun q hq => h q (mem_cons_of_mem _ hq)]
    exact getElem?_set_ne (h p (mem_cons_self ..))
theorem setF_eq : ∀ (z : List ((Int × Int) × Int)) (acc : List Int), (z.Pairwise fun a b => a.1.2.toNat ≠ b.1.2.toNat) → (∀ p ∈ z, p.1.2.toNat < acc.length) → ∀ p ∈ z, (z.foldl setF acc)[p.1.2.toNat]? = some p.2
  | [], _, _, _ => fun p hp => nomatch hp
  | q :: z, acc, h, hl => fun p hp => by
    have h' := pairwise_cons.mp h
    rw [foldl_cons]
    rcases mem_cons.mp hp with e | e
    · subst e
      rw [setF_ne z _ fun r hr e => h'.1 r hr e.symm]
      exact getElem?_set_self (hl p (mem_cons_self ..))
    · exact setF_eq z _ h'.2 (fun r hr => by rw [show (setF acc q).length = acc.length from length_set]; exact hl r (mem_cons_of_mem _ hr)) p e
theorem posL_apart (cs : List Int) : (posL cs).Pairwise fun a b => a.2.toNat ≠ b.2.toNat := by
  unfold posL
  rw [pairwise_map]
  refine Pairwise.filter _ ?_
  have h : (cs.zipIdx.map (·.2)).Nodup := by rw [zipIdx_map_snd]; exact nodup_range'
  have h2 := pairwise_map.mp h
  exact h2.imp fun h => by simpa using h
theorem posL_has {cs : List Int} {p : Int × Int} (h : p ∈ posL cs) : 0 < p.1 ∧ 0 ≤ p.2 ∧ cs[p.2.toNat]? = some p.1 := by
  unfold posL at h
  obtain ⟨a, ha, rfl⟩ := mem_map.mp h
  obtain ⟨h1, h2⟩ := mem_filter.mp ha
  refine ⟨of_decide_eq_true h2, by simp, ?_⟩
  simp only [Int.toNat_natCast]
  exact mem_zipIdx_iff_getElem?.mp h1
theorem posL_in {cs : List Int} {i : Nat} {c : Int} (h : cs[i]? = some c) (hc : 0 < c) : (c, (i : Int)) ∈ posL cs := by
  unfold posL
  refine mem_map.mpr ⟨(c, i), mem_filter.mpr ⟨?_, by simpa using hc⟩, rfl⟩
  exact mem_zipIdx_iff_getElem?.mpr h
theorem part_aux : ∀ (cs : List Int) (j : Nat), (((cs.zipIdx j).filter fun p => decide (0 < p.1)).map fun p => p.1) = cs.filter fun c => decide (0 < c)
  | [], _ => rfl
  | c :: cs, j => by
    rw [zipIdx_cons, filter_cons, filter_cons]
    by_cases h : 0 < c
    · simp only [h, decide_true, if_true, map_cons, part_aux cs (j + 1)]
    · simp only [h, decide_false, Bool.false_eq_true, if_false, part_aux cs (j + 1)]
theorem posL_part (cs : List Int) : (posL cs).map (·.1) = partF cs := by
  unfold posL partF
  rw [map_map]; exact part_aux cs 0
theorem posL_plen (cs : List Int) : (posL cs).length = (partF cs).length := by rw [← posL_part, length_map]
/-- the weights in their order -/
def wsF (cs : List Int) : List Int := (posS cs).map (·.1)
theorem wsF_srt (cs : List Int) : Srt (wsF cs) := by
  unfold wsF
  rw [Srt, pairwise_map]
  refine (posS_sorted cs).imp fun h => ?_
  simp only [lexlt, Bool.or_eq_false_iff, decide_eq_false_iff_not] at h
  lia
theorem wsF_perm (cs : List Int) : (wsF cs).Perm (partF cs) := by rw [← posL_part]; exact (posS_perm cs).map _
theorem wsF_len (cs : List Int) : (wsF cs).length = (posL cs).length := by unfold wsF; rw [length_map, (posS_perm cs).length_eq]
theorem wsF_pos {cs : List Int} {w : Int} (h : w ∈ wsF cs) : 0 < w := by
  have := (wsF_perm cs).mem_iff.mp h
  unfold partF at this
  exact of_decide_eq_true (mem_filter.mp this).2
theorem lsF_len (cs : List Int) (L : Nat) : (lsF cs L).length = cs.length := by
  unfold lsF placeI
  rw [show (fun (acc : List Int) (p : (Int × Int) × Int) => acc.set p.1.2.toNat p.2) = setF from rfl, setF_len, length_replicate]
theorem pkg_length (ws : List Int) (L : Nat) : (pkg ws L).length = ws.length := by
  rw [pkg_code, length_map]; unfold pcode; rw [length_map, length_zipIdx]
theorem zipS_len (cs : List Int) (L : Nat) : (pkg (wsF cs) L).length = (posS cs).length := by rw [pkg_length]; unfold wsF; rw [length_map]
theorem pairwise_zip {α β : Type} {R : α → α → Prop} : ∀ {l : List α} {m : List β}, l.Pairwise R → (l.zip m).Pairwise fun a b => R a.1 b.1
  | [], _, _ => by simp
  | _ :: _, [], _ => by simp
  | a :: l, b :: m, h => by
    rw [zip_cons_cons]
    have h' := pairwise_cons.mp h
    exact pairwise_cons.mpr ⟨fun p hp => h'.1 p.1 (of_mem_zip hp).1, pairwise_zip h'.2⟩
theorem lsF_at (cs : List Int) (L : Nat) : ∀ p ∈ (posS cs).zip (pkg (wsF cs) L), (lsF cs L)[p.1.2.toNat]? = some p.2 := by
  have hn : (posS cs).Pairwise fun a b => a.2.toNat ≠ b.2.toNat := ((posS_perm cs).pairwise_iff fun {x y} h => h.symm).mpr (posL_apart cs)
  exact setF_eq _ _ (pairwise_zip hn) fun p hp => by
    rw [length_replicate]
    have := posL_has ((posS_perm cs).mem_iff.mp (of_mem_zip hp).1)
    have h3 := this.2.2
    exact (List.getElem?_eq_some_iff.mp h3).1
/-- the code of the symbols in use -/
def codeF (cs : List Int) (L : Nat) : Cd := (posL cs).map fun q => (q.1, ((lsF cs L).getD q.2.toNat 0).toNat)
theorem codeF_perm (cs : List Int) (L : Nat) : (codeF cs L).Perm (pcode (wsF cs) L) := by
  refine ((posS_perm cs).symm.map _).trans ?_
  suffices h : ((posS cs).map fun q => (q.1, ((lsF cs L).getD q.2.toNat 0).toNat)) = pcode (wsF cs) L by rw [h]
  have hz : ∀ (qs : List (Int × Int)) (X : Cd), qs.map (·.1) = wts X → (∀ p ∈ qs.zip (X.map fun x => (x.2 : Int)), (lsF cs L)[p.1.2.toNat]? = some p.2) → (qs.map fun q => (q.1, ((lsF cs L).getD q.2.toNat 0).toNat)) = X := by
    intro qs
    induction qs with
    | nil =>
      intro X h _
      cases X with
      | nil => rfl
      | cons => cases h
    | cons q qs ih =>
      intro X h1 h2
      cases X with
      | nil => cases h1
      | cons x X =>
        rw [map_cons, wts_cons] at h1
        injection h1 with h3 h4
        rw [map_cons, ih X h4 fun p hp => h2 p (by rw [map_cons, zip_cons_cons]; exact mem_cons_of_mem _ hp)]
        have h5 := h2 (q, (x.2 : Int)) (by rw [map_cons, zip_cons_cons]; exact mem_cons_self ..)
        rw [getD_eq_getElem?_getD, h5, h3]
        simp
  refine hz _ _ (by rw [pcode_wts]; rfl) ?_
  rw [← pkg_code]
  exact lsF_at cs L
theorem totI_aux (f : Int × Nat → Int) : ∀ (z : List (Int × Nat)) (acc : Int), z.foldl (fun acc p => if 0 < p.1 then acc + f p else acc) acc = acc + ((z.filter fun p => decide (0 < p.1)).map f).sum
  | [], acc => by simp
  | p :: z, acc => by
    rw [foldl_cons, totI_aux f z, filter_cons]
    by_cases h : 0 < p.1
    · simp only [h, decide_true, if_true, map_cons, sum_cons]; lia
    · simp only [h, decide_false, Bool.false_eq_true, if_false]
theorem lsF_nonneg {cs : List Int} {L : Nat} {q : Int × Int} (h : q ∈ posL cs) : ∃ x ∈ pcode (wsF cs) L, (lsF cs L)[q.2.toNat]? = some (x.2 : Int) := by
  have h1 := (posS_perm cs).mem_iff.mpr h
  obtain ⟨j, hj, e⟩ := mem_iff_getElem.mp h1
  have hj2 : j < (pkg (wsF cs) L).length := by rw [zipS_len]; exact hj
  have hj3 : j < (pcode (wsF cs) L).length := by rw [pkg_code, length_map] at hj2; exact hj2
  refine ⟨(pcode (wsF cs) L)[j], getElem_mem _, ?_⟩
  have hm : (q, (pkg (wsF cs) L)[j]) ∈ (posS cs).zip (pkg (wsF cs) L) := by
    refine mem_iff_getElem.mpr ⟨j, by rw [length_zip]; lia, ?_⟩
    rw [getElem_zip, e]
  rw [lsF_at cs L _ hm]
  simp only [pkg_code, getElem_map]
theorem codeF_cost (cs : List Int) (L : Nat) : cost (codeF cs L) = totI cs (lsF cs L) := by
  unfold totI
  rw [totI_aux (fun p => p.1 * (lsF cs L).getD p.2 0)]
  unfold cost codeF
  rw [map_map, Int.zero_add]
  have hp : (posL cs).map ((fun x : Int × Nat => x.1 * (x.2 : Int)) ∘ fun q : Int × Int => (q.1, ((lsF cs L).getD q.2.toNat 0).toNat)) = (posL cs).map fun q => q.1 * (lsF cs L).getD q.2.toNat 0 := map_congr_left fun q hq => by
    obtain ⟨x, _, hx⟩ := lsF_nonneg (L := L) hq
    simp only [Function.comp_apply, getD_eq_getElem?_getD, hx, Option.getD_some, Int.toNat_natCast]
  rw [hp]
  unfold posL
  rw [map_map]
  congr 1
theorem cost_nonneg {X : Cd} (h : ∀ w ∈ wts X, 0 ≤ w) : 0 ≤ cost X := by
  unfold cost
  refine sumI_nonneg fun x hx => ?_
  obtain ⟨p, hp, rfl⟩ := mem_map.mp hx
  exact Int.mul_nonneg (h p.1 (mem_map_of_mem hp)) (by lia)
theorem kr_ge_len (L : Nat) (X : Cd) : X.length ≤ kr L X := by
  have := sumN_const 1 X
  unfold kr
  refine Nat.le_trans (show _ ≤ (X.map fun _ => 1).sum by lia) (sumN_le fun x _ => Nat.two_pow_pos _)
theorem part_pos {cs : List Int} {c : Int} (h : c ∈ partF cs) : 0 < c := of_decide_eq_true (mem_filter.mp h).2
/-- the law's total is a least one -/
theorem opt_lo {cs : List Int} {L : Nat} {v : Int} (h : Reach L (partF cs) v) : totF cs L ≤ v := by
  unfold totF
  split
  · obtain ⟨X, h1, _, h3⟩ := h
    have := cost_nonneg (X := X) fun w hw => Int.le_of_lt (part_pos (h1.mem_iff.mp hw))
    lia
  next hn =>
    obtain ⟨X, h1, h2, h3⟩ := h
    obtain ⟨Y, h4, h5⟩ := real (h1.trans (wsF_perm cs).symm)
    have hO := h2.perm h4.symm
    have hl : Y.length = (wsF cs).length := by rw [← h5]; unfold wts; rw [length_map]
    have hk := hO.kr
    have := kr_ge_len L Y
    obtain ⟨_, hb⟩ := pkg_best (L := L) (wsF_srt cs) (fun w hw => Int.le_of_lt (wsF_pos hw)) (by rw [wsF_len]; lia) (by lia)
    have hb := hb Y h5 hO
    rw [← codeF_cost, cost_perm (codeF_perm cs L)]
    rw [cost_perm h4] at hb; lia
theorem codeF_ok {cs : List Int} {L : Nat} (h2 : 2 ≤ (posL cs).length) (hn : (posL cs).length ≤ 2 ^ L) : Ok L (codeF cs L) := by
  obtain ⟨hO, _⟩ := pkg_best (L := L) (wsF_srt cs) (fun w hw => Int.le_of_lt (wsF_pos hw)) (by rw [wsF_len]; lia) (by rw [wsF_len]; lia)
  exact hO.perm (codeF_perm cs L).symm
theorem codeF_wts (cs : List Int) (L : Nat) : wts (codeF cs L) = partF cs := by
  rw [← posL_part]; unfold wts codeF; rw [map_map]; rfl
theorem opt_hi {cs : List Int} {L : Nat} (hn : (partF cs).length ≤ 2 ^ L) : Reach L (partF cs) (totF cs L) := by
  unfold totF
  rw [← posL_plen] at hn
  split
  next h =>
    rw [posL_plen] at h
    match hp : partF cs, h with
    | [], _ => exact ⟨[], .refl _, ⟨fun x hx => (by cases hx), Nat.zero_le _⟩, Int.le_refl _⟩
    | [c], _ => exact ⟨[(c, 0)], .refl _, ⟨fun x hx => by rw [mem_singleton.mp hx]; exact Nat.zero_le _, by simp [kr]⟩, by simp [cost]⟩
  next h => exact ⟨codeF cs L, by rw [codeF_wts], codeF_ok (by lia) hn, by rw [codeF_cost]; exact Int.le_refl _⟩
theorem ok_pos {L : Nat} {X : Cd} (h : Ok L X) (h2 : 2 ≤ X.length) {x : Int × Nat} (hx : x ∈ X) : 1 ≤ x.2 := by
  refine Nat.one_le_iff_ne_zero.mpr fun h0 => ?_
  obtain ⟨Y, hY⟩ := mem_split hx
  have hk := h.kr
  rw [kr_perm hY, kr_cons, h0] at hk
  have hl := hY.length_eq
  rw [length_cons] at hl
  have := kr_ge_len L Y
  simp only [Nat.sub_zero] at hk; lia
theorem mf_pos (cs : List Int) (L : Nat) (h2 : 2 ≤ (posL cs).length) (hn : (posL cs).length ≤ 2 ^ L) :
    (lsF cs L).length = cs.length ∧ ∀ (i : Nat) (c : Int), cs[i]? = some c → 0 < c → ∃ l : Int, (lsF cs L)[i]? = some l ∧ 1 ≤ l ∧ l ≤ L := by
  refine ⟨lsF_len cs L, fun i c hi hc => ?_⟩
  obtain ⟨hO, _⟩ := pkg_best (L := L) (wsF_srt cs) (fun w hw => Int.le_of_lt (wsF_pos hw)) (by rw [wsF_len]; lia) (by rw [wsF_len]; lia)
  obtain ⟨x, hx, e⟩ := lsF_nonneg (L := L) (posL_in hi hc)
  have h1 := hO.le x hx
  have h3 := ok_pos hO (by unfold pcode; rw [length_map, length_zipIdx, wsF_len]; exact h2) hx
  simp only [Int.toNat_natCast] at e
  exact ⟨_, e, by lia, by lia⟩
end Mine
end

section
namespace Mine
open List
theorem sum_perm_flat {P : List (List Int)} : P.flatten.sum = (P.map List.sum).sum := by
  induction P with
  | nil => rfl
  | cons p P ih => rw [flatten_cons, sum_append, ih, map_cons, sum_cons]
theorem cost_flat (Xs : List Cd) : cost Xs.flatten = (Xs.map cost).sum := by
  induction Xs with
  | nil => rfl
  | cons X Xs ih => rw [flatten_cons, cost_app, ih, map_cons, sum_cons]
theorem kr_flat (L : Nat) (Xs : List Cd) : kr L Xs.flatten = (Xs.map (kr L)).sum := by
  induction Xs with
  | nil => rfl
  | cons X Xs ih => rw [flatten_cons, kr_app, ih, map_cons, sum_cons]
theorem wts_flat (Xs : List Cd) : wts Xs.flatten = (Xs.map wts).flatten := by
  induction Xs with
  | nil => rfl
  | cons X Xs ih => rw [flatten_cons, wts_app, ih, map_cons, flatten_cons]
theorem split_groups : ∀ (P : List (List Int)) (X : Cd), wts X = P.flatten → ∃ Xs : List Cd, X = Xs.flatten ∧ Xs.map wts = P
  | [], X, h => by
    have : X = [] := by
      cases X with
      | nil => rfl
      | cons => cases h
    exact ⟨[], this, rfl⟩
  | p :: P, X, h => by
    rw [flatten_cons] at h
    obtain ⟨Y, Z, h1, h2, h3⟩ := map_eq_append_iff.mp h
    obtain ⟨Xs, h4, h5⟩ := split_groups P Z h3
    exact ⟨Y :: Xs, by rw [flatten_cons, ← h4, h1], by rw [map_cons, h5, show wts Y = p from h2]⟩
/-- longer by d -/
def shift (d : Nat) (A : Cd) : Cd := A.map fun x => (x.1, x.2 + d)
theorem shift_wts (d : Nat) (A : Cd) : wts (shift d A) = wts A := by unfold wts shift; rw [map_map]; rfl
theorem shift_kr {i o d : Nat} : ∀ {A : Cd}, (∀ x ∈ A, x.2 ≤ i) → d ≤ o → kr (i + o) (shift d A) = 2 ^ (o - d) * kr i A
  | [], _, _ => rfl
  | x :: A, h, hd => by
    have hx := h x (mem_cons_self ..)
    show kr (i + o) ((x.1, x.2 + d) :: shift d A) = _
    rw [kr_cons, kr_cons, shift_kr (fun y hy => h y (mem_cons_of_mem _ hy)) hd, Nat.mul_add, ← Nat.pow_add]
    congr 2; lia
theorem shift_cost (d : Nat) : ∀ (A : Cd), cost (shift d A) = cost A + (wts A).sum * (d : Int)
  | [] => by simp [cost, shift, wts]
  | x :: A => by
    show cost ((x.1, x.2 + d) :: shift d A) = _
    rw [cost_cons, cost_cons, shift_cost d A, wts_cons, sum_cons, Int.add_mul]
    dsimp only
    rw [Int.natCast_add, Int.mul_add]; lia
/-- two rounds as one code -/
def comp (Y : List (Cd × Nat)) : Cd := (Y.map fun y => shift y.2 y.1).flatten
theorem comp_wts (Y : List (Cd × Nat)) : wts (comp Y) = (Y.map fun y => wts y.1).flatten := by
  unfold comp
  rw [wts_flat, map_map]
  congr 1
  exact map_congr_left fun y _ => shift_wts _ _
theorem comp_cost (Y : List (Cd × Nat)) : cost (comp Y) = (Y.map fun y => cost y.1).sum + (Y.map fun y => (wts y.1).sum * (y.2 : Int)).sum := by
  unfold comp
  rw [cost_flat, map_map, ← sumI_add]
  congr 1
  exact map_congr_left fun y _ => shift_cost _ _
theorem comp_kr {i o : Nat} {Y : List (Cd × Nat)} (h : ∀ y ∈ Y, (∀ x ∈ y.1, x.2 ≤ i) ∧ y.2 ≤ o) : kr (i + o) (comp Y) = (Y.map fun y => 2 ^ (o - y.2) * kr i y.1).sum := by
  unfold comp
  rw [kr_flat, map_map]
  congr 1
  exact map_congr_left fun y hy => shift_kr (h y hy).1 (h y hy).2
theorem pick {i : Nat} {t : List Int → Int} : ∀ (P : List (List Int)) (B : Cd), wts B = P.map List.sum → (∀ p ∈ P, Reach i p (t p)) →
    ∃ Y : List (Cd × Nat), Y.map (fun y => wts y.1) = P ∧ Y.map (fun y => y.2) = B.map (fun b => b.2) ∧ ∀ y ∈ Y, Ok i y.1 ∧ cost y.1 ≤ t (wts y.1)
  | [], B, h, _ => by
    cases B with
    | nil => exact ⟨[], rfl, rfl, fun y hy => nomatch hy⟩
    | cons => cases h
  | p :: P, B, h, hr => by
    cases B with
    | nil => cases h
    | cons b B =>
      rw [wts_cons, map_cons] at h
      injection h with h1 h2
      obtain ⟨Y, y1, y2, y3⟩ := pick P B h2 fun q hq => hr q (mem_cons_of_mem _ hq)
      obtain ⟨X, x1, x2, x3⟩ := (hr p (mem_cons_self ..)).real
      refine ⟨(X, b.2) :: Y, by rw [map_cons, y1, x1], by rw [map_cons, y2, map_cons], fun y hy => ?_⟩
      rcases mem_cons.mp hy with e | e
      · rw [e]; exact ⟨x2, by rw [x1]; exact x3⟩
      · exact y3 y e
theorem pick_top : ∀ {P : List (List Int)} {B : Cd} {Y : List (Cd × Nat)}, wts B = P.map List.sum → Y.map (fun y => wts y.1) = P → Y.map (fun y => y.2) = B.map (fun b => b.2) →
    (Y.map fun y => (wts y.1).sum * (y.2 : Int)).sum = cost B ∧ ∀ L, (Y.map fun y => 2 ^ (L - y.2)).sum = kr L B
  | P, [], Y, h, h1, h2 => by
    cases Y with
    | nil => exact ⟨rfl, fun _ => rfl⟩
    | cons => cases h2
  | P, b :: B, [], h, h1, h2 => by cases h2
  | P, b :: B, y :: Y, h, h1, h2 => by
    subst h1
    rw [wts_cons, map_cons, map_cons] at h
    injection h with h3 h4
    rw [map_cons, map_cons] at h2
    injection h2 with h5 h6
    obtain ⟨h7, h8⟩ := pick_top (P := Y.map fun y => wts y.1) h4 rfl h6
    refine ⟨?_, fun L => ?_⟩
    · rw [map_cons, sum_cons, h7, cost_cons, h3, h5]
    · rw [map_cons, sum_cons, h8, kr_cons, h5]
theorem two_rounds {i o : Nat} {t : List Int → Int} {P : List (List Int)} {v : Int} (hr : ∀ p ∈ P, Reach i p (t p)) (hB : Reach o (P.map List.sum) v) : Reach (i + o) P.flatten ((P.map t).sum + v) := by
  obtain ⟨B, b1, b2, b3⟩ := hB.real
  obtain ⟨Y, y1, y2, y3⟩ := pick P B b1 hr
  obtain ⟨c1, c2⟩ := pick_top b1 y1 y2
  have hY : ∀ y ∈ Y, (∀ x ∈ y.1, x.2 ≤ i) ∧ y.2 ≤ o := fun y hy => ⟨(y3 y hy).1.le, by
    have : y.2 ∈ B.map (fun b => b.2) := by rw [← y2]; exact mem_map_of_mem hy
    obtain ⟨b, hb, e⟩ := mem_map.mp this
    have := b2.le b hb; lia⟩
  refine ⟨comp Y, by rw [comp_wts, y1], ⟨fun x hx => ?_, ?_⟩, ?_⟩
  · obtain ⟨A, hA, hx⟩ := mem_flatten.mp hx
    obtain ⟨y, hy, rfl⟩ := mem_map.mp hA
    obtain ⟨z, hz, rfl⟩ := mem_map.mp hx
    have := (hY y hy).1 z hz
    have := (hY y hy).2
    show z.2 + y.2 ≤ _; lia
  · rw [comp_kr hY]
    refine Nat.le_trans (sumN_le (g := fun y => 2 ^ i * 2 ^ (o - y.2)) fun y hy => ?_) ?_
    · rw [Nat.mul_comm]; exact Nat.mul_le_mul_right _ (y3 y hy).1.kr
    · rw [sumN_mul, c2, Nat.pow_add]; exact Nat.mul_le_mul_left _ b2.kr
  · rw [comp_cost, c1]
    have : (Y.map fun y => cost y.1).sum ≤ (P.map t).sum := by
      rw [← y1, map_map]
      exact sumI_le fun y hy => (y3 y hy).2
    lia
/-- groups of their own leave room -/
theorem apart_room {L : Nat} {t mn : List Int → Int} {P : List (List Int)} {v : Int} (hne : ∀ p ∈ P, p ≠ []) (h2 : 2 ≤ P.length) (hm : ∀ p ∈ P, ∀ x ∈ p, mn p ≤ x)
    (ht : ∀ p ∈ P, ∀ v, Reach L p v → t p ≤ v) (hr : Reach L P.flatten v) : (P.map t).sum + (P.map mn).sum ≤ v := by
  obtain ⟨X, x1, x2, x3⟩ := hr.real
  obtain ⟨Xs, e1, e2⟩ := split_groups P X x1
  refine Int.le_trans ?_ x3
  rw [e1, cost_flat, ← sumI_add, ← e2, map_map]
  refine sumI_le fun Y hY => ?_
  have hP : wts Y ∈ P := by rw [← e2]; exact mem_map_of_mem hY
  have hYne : Y ≠ [] := fun e => hne _ hP (by rw [e]; rfl)
  obtain ⟨Zs, hZ⟩ := mem_split hY
  have hZl : 1 ≤ Zs.length := by
    have h3 := hZ.length_eq
    have h4 : Xs.length = P.length := by rw [← e2, length_map]
    rw [length_cons] at h3; lia
  have hk := x2.kr
  rw [e1, kr_flat, (hZ.map _).sum_nat, map_cons, sum_cons] at hk
  have hpos : 0 < (Zs.map (kr L)).sum := by
    match Zs, hZl with
    | Z :: Zs, _ =>
      have hZm : Z ∈ Xs := hZ.mem_iff.mpr (mem_cons_of_mem _ (mem_cons_self ..))
      have hZne : Z ≠ [] := fun e => hne (wts Z) (by rw [← e2]; exact mem_map_of_mem hZm) (by rw [e]; rfl)
      have := kr_pos (L := L) hZne
      rw [map_cons, sum_cons]; lia
  have hYle : ∀ x ∈ Y, x.2 ≤ L := fun x hx => x2.le x (by rw [e1]; exact mem_flatten.mpr ⟨Y, hY, hx⟩)
  obtain ⟨x, R, h5, h6, h7, h8⟩ := shorten hYne hYle (show kr L Y < 2 ^ L by lia)
  have h9 := ht _ hP _ ⟨(x.1, x.2 - 1) :: R, (wts_perm h5).symm, h8, Int.le_refl _⟩
  rw [cost_short h7, ← cost_perm h5] at h9
  have h10 := hm _ hP x.1 (mem_map_of_mem (h5.mem_iff.mpr (mem_cons_self ..)))
  show t (wts Y) + mn (wts Y) ≤ cost Y
  lia
/-- what a group takes beyond its share -/
def exE (L : Nat) (X : Cd) : Int := if 2 ^ (kr L X).log2 = kr L X then 0 else (wts X).sum
def unshift (s : Nat) (X : Cd) : Cd := X.map fun x => (x.1, x.2 - s)
theorem unshift_wts (s : Nat) (X : Cd) : wts (unshift s X) = wts X := by unfold wts unshift; rw [map_map]; rfl
theorem unshift_cost {s : Nat} : ∀ {X : Cd}, (∀ x ∈ X, s ≤ x.2) → cost (unshift s X) = cost X - (wts X).sum * (s : Int)
  | [], _ => by simp [cost, unshift, wts]
  | x :: X, h => by
    have hx := h x (mem_cons_self ..)
    show cost ((x.1, x.2 - s) :: unshift s X) = _
    rw [cost_cons, cost_cons, unshift_cost fun y hy => h y (mem_cons_of_mem _ hy), wts_cons, sum_cons, Int.add_mul]
    dsimp only
    rw [show ((x.2 - s : Nat) : Int) = (x.2 : Int) - (s : Int) by lia, Int.mul_sub]; lia
theorem unshift_kr {L s : Nat} : ∀ {X : Cd}, (∀ x ∈ X, s ≤ x.2 ∧ x.2 ≤ L) → kr L (unshift s X) = kr L X * 2 ^ s
  | [], _ => by simp [kr, unshift]
  | x :: X, h => by
    have hx := h x (mem_cons_self ..)
    show kr L ((x.1, x.2 - s) :: unshift s X) = _
    rw [kr_cons, kr_cons, unshift_kr fun y hy => h y (mem_cons_of_mem _ hy), Nat.add_mul, ← Nat.pow_add]
    congr 2
    show L - (x.2 - s) = _; lia
theorem group1 {L : Nat} {X : Cd} (hne : X ≠ []) (hle : ∀ x ∈ X, x.2 ≤ L) (hk : kr L X ≤ 2 ^ L) : ∃ b, b ≤ L ∧ 2 ^ (L - b) ≤ kr L X ∧ Reach L (wts X) (cost X + exE L X - (wts X).sum * (b : Int)) := by
  have hpos := kr_pos (L := L) hne
  have h1 := Nat.log2_self_le (n := kr L X) (by lia)
  have h2 := Nat.lt_log2_self (n := kr L X)
  have hj : (kr L X).log2 ≤ L := (Nat.pow_le_pow_iff_right (by decide)).mp (Nat.le_trans h1 hk)
  have hb : ∀ x ∈ X, L - (kr L X).log2 ≤ x.2 := fun x hx => by
    have h3 : 2 ^ (L - x.2) < 2 ^ ((kr L X).log2 + 1) := Nat.lt_of_le_of_lt (kr_ge hx) h2
    have := (Nat.pow_lt_pow_iff_right (by decide)).mp h3
    lia
  unfold exE
  generalize hjj : (kr L X).log2 = j at h1 h2 hj hb
  refine ⟨L - j, by lia, by rw [show L - (L - j) = j by lia]; exact h1, ?_⟩
  by_cases he : 2 ^ j = kr L X
  · rw [if_pos he]
    refine ⟨unshift (L - j) X, by rw [unshift_wts], ⟨fun x hx => ?_, ?_⟩, by rw [unshift_cost hb]; lia⟩
    · obtain ⟨y, hy, rfl⟩ := mem_map.mp hx
      have := hle y hy
      show y.2 - _ ≤ L; lia
    · rw [unshift_kr fun x hx => ⟨hb x hx, hle x hx⟩, ← he, ← Nat.pow_add, show j + (L - j) = L by lia]; exact Nat.le_refl _
  · rw [if_neg he]
    have hjL : j < L := by
      rcases Nat.lt_or_ge j L with h | h
      · exact h
      · have : j = L := by lia
        subst this; lia
    refine ⟨unshift (L - j - 1) X, by rw [unshift_wts], ⟨fun x hx => ?_, ?_⟩, ?_⟩
    · obtain ⟨y, hy, rfl⟩ := mem_map.mp hx
      have := hle y hy
      show y.2 - _ ≤ L; lia
    · rw [unshift_kr fun x hx => ⟨by have := hb x hx; lia, hle x hx⟩]
      refine Nat.le_trans (Nat.mul_le_mul_right _ (Nat.le_of_lt h2)) ?_
      rw [← Nat.pow_add, show j + 1 + (L - j - 1) = L by lia]; exact Nat.le_refl _
    · rw [unshift_cost fun x hx => by have := hb x hx; lia]
      rw [show ((L - j : Nat) : Int) = ((L - j - 1 : Nat) : Int) + 1 by lia, Int.mul_add, Int.mul_one]; lia
theorem parted {L : Nat} {t : List Int → Int} : ∀ (Xs : List Cd), (∀ X ∈ Xs, X ≠ []) → (∀ X ∈ Xs, ∀ x ∈ X, x.2 ≤ L) → kr L Xs.flatten ≤ 2 ^ L → (∀ X ∈ Xs, ∀ v, Reach L (wts X) v → t (wts X) ≤ v) →
    ∃ B : Cd, wts B = Xs.map (fun X => (wts X).sum) ∧ (∀ b ∈ B, b.2 ≤ L) ∧ kr L B ≤ kr L Xs.flatten ∧ (Xs.map fun X => t (wts X)).sum + cost B ≤ cost Xs.flatten + (Xs.map (exE L)).sum
  | [], _, _, _, _ => ⟨[], rfl, fun b hb => (by cases hb), Nat.le_refl _, Int.le_refl _⟩
  | X :: Xs, hne, hle, hk, ht => by
    rw [flatten_cons, kr_app] at hk
    obtain ⟨B, b1, b2, b3, b4⟩ := parted Xs (fun Y hY => hne Y (mem_cons_of_mem _ hY)) (fun Y hY => hle Y (mem_cons_of_mem _ hY)) (by lia) (fun Y hY => ht Y (mem_cons_of_mem _ hY))
    obtain ⟨b, c1, c2, c3⟩ := group1 (hne X (mem_cons_self ..)) (hle X (mem_cons_self ..)) (show kr L X ≤ 2 ^ L by lia)
    have c4 := ht X (mem_cons_self ..) _ c3
    refine ⟨((wts X).sum, b) :: B, by rw [wts_cons, b1, map_cons], fun d hd => ?_, ?_, ?_⟩
    · rcases mem_cons.mp hd with e | e
      · rw [e]; exact c1
      · exact b2 d e
    · rw [kr_cons, flatten_cons, kr_app]; dsimp only; lia
    · rw [map_cons, sum_cons, cost_cons, flatten_cons, cost_app, map_cons, sum_cons]; dsimp only; lia
end Mine
end

section
namespace Mine
open List
theorem sumI_lt {α : Type} {f g : α → Int} : ∀ {l : List α}, (∀ x ∈ l, f x ≤ g x) → (∃ x ∈ l, f x < g x) → (l.map f).sum < (l.map g).sum
  | [], _, ⟨x, h, _⟩ => nomatch h
  | a :: l, h, ⟨x, hx, hlt⟩ => by
    have h1 := h a (mem_cons_self ..)
    have h2 := sumI_le (l := l) fun x hx => h x (mem_cons_of_mem _ hx)
    simp only [map_cons, sum_cons]
    rcases mem_cons.mp hx with e | e
    · subst e; lia
    · have := sumI_lt (l := l) (fun x hx => h x (mem_cons_of_mem _ hx)) ⟨x, e, hlt⟩
      lia
theorem halvF_iff {ps : List Int} {w : Int} : halvF ps w = true ↔ ∀ p ∈ ps, 0 < p → ∃ k : Nat, k < 10 ∧ p * 2 ^ k = w := by
  have key : ∀ p : Int, (halvesF w).contains p = true ↔ ∃ k : Nat, k < 10 ∧ p * 2 ^ k = w := fun p => by
    rw [contains_iff_mem]
    unfold halvesF
    rw [mem_map]
    have hp : ∀ k : Nat, (0 : Int) < 2 ^ k := fun k => Int.pow_pos (by decide)
    constructor
    · rintro ⟨k, hk, e⟩
      obtain ⟨h1, h2⟩ := mem_filter.mp hk
      refine ⟨k, mem_range.mp h1, ?_⟩
      have h3 : w.fmod (2 ^ k) = 0 := by simpa using h2
      rw [Int.fmod_eq_emod_of_nonneg _ (Int.le_of_lt (hp k))] at h3
      rw [Int.fdiv_eq_ediv_of_nonneg _ (Int.le_of_lt (hp k))] at e
      rw [← e]; exact Int.ediv_mul_cancel (Int.dvd_of_emod_eq_zero h3)
    · rintro ⟨k, hk, e⟩
      refine ⟨k, mem_filter.mpr ⟨mem_range.mpr hk, ?_⟩, ?_⟩
      · rw [Int.fmod_eq_emod_of_nonneg _ (Int.le_of_lt (hp k)), ← e, Int.mul_emod_left]; rfl
      · rw [Int.fdiv_eq_ediv_of_nonneg _ (Int.le_of_lt (hp k)), ← e, Int.mul_ediv_cancel _ (Int.ne_of_gt (hp k))]
  unfold halvF
  rw [isEmpty_iff, filter_eq_nil_iff]
  constructor
  · intro h p hp h0
    have := h p hp
    simp only [h0, decide_true, Bool.true_and, Bool.not_eq_true', Bool.not_eq_false] at this
    exact (key p).mp this
  · intro h p hp hc
    simp only [Bool.and_eq_true, decide_eq_true_eq, Bool.not_eq_true'] at hc
    have := (key p).mpr (h p hp hc.1)
    rw [this] at hc; cases hc.2
theorem kr_cast (L : Nat) : ∀ X : Cd, ((kr L X : Nat) : Int) = (X.map fun x => (2 : Int) ^ (L - x.2)).sum
  | [] => rfl
  | x :: X => by
    rw [kr_cons, Int.natCast_add, kr_cast L X, map_cons, sum_cons]
    rw [Int.natCast_pow]; rfl
theorem gibbs_term {c W : Int} {l k L : Nat} (hc : 0 < c) (hk : c * 2 ^ k = W) (hl : l ≤ L) :
    2 ^ L * (c * (1 + (k : Int) - (l : Int))) ≤ W * 2 ^ (L - l) ∧ (k < l → 2 ^ L * (c * (1 + (k : Int) - (l : Int))) < W * 2 ^ (L - l)) := by
  have hp : ∀ k : Nat, (0 : Int) < 2 ^ k := fun k => Int.pow_pos (by decide)
  have hW : 0 < W := by rw [← hk]; exact Int.mul_pos hc (hp k)
  rcases Nat.lt_or_ge k l with h | h
  · have h1 : c * (1 + (k : Int) - (l : Int)) ≤ 0 := Int.mul_nonpos_of_nonneg_of_nonpos (by lia) (by lia)
    have h2 : 2 ^ L * (c * (1 + (k : Int) - (l : Int))) ≤ 0 := Int.mul_nonpos_of_nonneg_of_nonpos (Int.le_of_lt (hp L)) h1
    have h3 : 0 < W * 2 ^ (L - l) := Int.mul_pos hW (hp _)
    exact ⟨by lia, fun _ => by lia⟩
  · obtain ⟨s, rfl⟩ := Nat.le.dest h
    refine ⟨?_, fun h' => by lia⟩
    have e : W * 2 ^ (L - l) = 2 ^ L * (c * 2 ^ s) := by
      rw [← hk, Int.mul_assoc, ← Int.pow_add, show l + s + (L - l) = L + s by lia, Int.pow_add, ← Int.mul_assoc, ← Int.mul_assoc, Int.mul_comm c]
    rw [e]
    refine Int.mul_le_mul_of_nonneg_left (Int.mul_le_mul_of_nonneg_left ?_ (Int.le_of_lt hc)) (Int.le_of_lt (hp L))
    have := Nat.lt_two_pow_self (n := s)
    have h2 : (((s + 1 : Nat)) : Int) ≤ ((2 ^ s : Nat) : Int) := by exact_mod_cast this
    rw [Int.natCast_pow] at h2
    simp only [Int.natCast_add, Int.natCast_one] at h2 ⊢
    have e2 : ((2 : Nat) : Int) = 2 := rfl
    rw [e2] at h2
    lia
/-- where the weights are the whole halved, the lengths that say how often are the only least ones -/
theorem gibbs {W : Int} {L : Nat} {kf : Int → Nat} {Y : Cd} (hY : ∀ y ∈ Y, 0 < y.1 ∧ y.1 * 2 ^ (kf y.1) = W) (hs : (wts Y).sum = W) (hO : Ok L Y) :
    (Y.map fun y => y.1 * (kf y.1 : Int)).sum ≤ cost Y ∧ (cost Y ≤ (Y.map fun y => y.1 * (kf y.1 : Int)).sum → ∀ y ∈ Y, y.2 = kf y.1) := by
  have hp : ∀ k : Nat, (0 : Int) < 2 ^ k := fun k => Int.pow_pos (by decide)
  have hW : 0 ≤ W := by
    rw [← hs]
    refine sumI_nonneg fun x hx => ?_
    obtain ⟨y, hy, rfl⟩ := mem_map.mp hx
    exact Int.le_of_lt (hY y hy).1
  have hR : (Y.map fun y => W * (2 : Int) ^ (L - y.2)).sum ≤ 2 ^ L * W := by
    rw [sumI_mul, ← kr_cast, Int.mul_comm]
    refine Int.mul_le_mul_of_nonneg_right ?_ hW
    have := hO.kr
    have h2 : ((kr L Y : Nat) : Int) ≤ ((2 ^ L : Nat) : Int) := by exact_mod_cast this
    rw [Int.natCast_pow] at h2; exact h2
  have hLs : (Y.map fun y => 2 ^ L * (y.1 * (1 + (kf y.1 : Int) - (y.2 : Int)))).sum = 2 ^ L * (W + (Y.map fun y => y.1 * (kf y.1 : Int)).sum - cost Y) := by
    rw [sumI_mul]
    congr 1
    rw [← hs]
    clear hs hR hW hY hO
    induction Y with
    | nil => rfl
    | cons y Y ih =>
      rw [map_cons, sum_cons, ih, wts_cons, sum_cons, map_cons, sum_cons, cost_cons, Int.mul_sub, Int.mul_add, Int.mul_one]; lia
  have h1 : (Y.map fun y => y.1 * (kf y.1 : Int)).sum ≤ cost Y := by
    have := sumI_le (l := Y) fun y hy => (gibbs_term (hY y hy).1 (hY y hy).2 (hO.le y hy)).1
    rw [hLs] at this
    have h2 := Int.le_trans this hR
    have := Int.le_of_mul_le_mul_left h2 (hp L)
    lia
  refine ⟨h1, fun h2 y hy => ?_⟩
  have hle : ∀ y ∈ Y, y.2 ≤ kf y.1 := fun y hy => by
    rcases Nat.lt_or_ge (kf y.1) y.2 with h | h
    · exfalso
      have := sumI_lt (l := Y) (fun y hy => (gibbs_term (hY y hy).1 (hY y hy).2 (hO.le y hy)).1) ⟨y, hy, (gibbs_term (hY y hy).1 (hY y hy).2 (hO.le y hy)).2 h⟩
      rw [hLs] at this
      have h3 := Int.lt_of_lt_of_le this hR
      have := Int.lt_of_mul_lt_mul_left h3 (Int.le_of_lt (hp L))
      lia
    · exact h
  rcases Nat.lt_or_ge y.2 (kf y.1) with h | h
  · exfalso
    have := sumI_lt (l := Y) (f := fun y => y.1 * (y.2 : Int)) (g := fun y => y.1 * (kf y.1 : Int)) (fun y hy => mulz (hle y hy) (Int.le_of_lt (hY y hy).1)) ⟨y, hy, Int.mul_lt_mul_of_pos_left (by lia) (hY y hy).1⟩
    have e : cost Y = (Y.map fun y => y.1 * (y.2 : Int)).sum := rfl
    lia
  · exact Nat.le_antisymm (hle y hy) h
/-- a code of halves takes just the space that its weights say -/
theorem dy_kr {W : Int} {L : Nat} : ∀ {Y : Cd}, (∀ y ∈ Y, y.1 * 2 ^ y.2 = W ∧ y.2 ≤ L) → W * (kr L Y : Int) = 2 ^ L * (wts Y).sum
  | [], _ => by simp [kr, wts]
  | y :: Y, h => by
    obtain ⟨h1, h2⟩ := h y (mem_cons_self ..)
    have e : W * (2 : Int) ^ (L - y.2) = 2 ^ L * y.1 := by
      rw [← h1, Int.mul_assoc, ← Int.pow_add, show y.2 + (L - y.2) = L by lia, Int.mul_comm]
    rw [kr_cons, Int.natCast_add, Int.mul_add, dy_kr fun z hz => h z (mem_cons_of_mem _ hz), wts_cons, sum_cons, Int.mul_add, Int.natCast_pow, ← e]; rfl
end Mine
end

section
namespace Mine
open List
/-- what is known of the groups: P, of all: cs, and of the least totals -/
structure Law (most : Nat) (cs : List Int) (P : List (List Int)) (t : List Int → Int) (top one : Int) : Prop where
  perm : P.flatten.Perm cs
  pos : ∀ c ∈ cs, 0 < c
  ne : ∀ p ∈ P, p ≠ []
  t_hi : ∀ p ∈ P, Reach most p (t p)
  t_lo : ∀ p ∈ P, ∀ v, Reach most p v → t p ≤ v
  top_hi : Reach most (P.map List.sum) top
  top_lo : ∀ v, Reach most (P.map List.sum) v → top ≤ v
  one_hi : Reach most cs one
  one_lo : ∀ v, Reach most cs v → one ≤ v
variable {most : Nat} {cs : List Int} {P : List (List Int)} {t : List Int → Int} {top one : Int}
theorem Law.le (h : Law most cs P t top one) (hn : cs.length ≤ most + 1) : one ≤ (P.map t).sum + top :=
  h.one_lo _ (((two_rounds h.t_hi h.top_hi).perm h.perm).room hn fun w hw => Int.le_of_lt (h.pos w hw))
theorem Law.core (h : Law most cs P t top one) {Xs : List Cd} (hP : Xs.map wts = P) (hO : Ok most Xs.flatten) : (P.map t).sum + top ≤ cost Xs.flatten + (Xs.map (exE most)).sum := by
  have hm : ∀ X ∈ Xs, wts X ∈ P := fun X hX => by rw [← hP]; exact mem_map_of_mem hX
  obtain ⟨B, b1, b2, b3, b4⟩ := parted (L := most) (t := t) Xs (fun X hX e => h.ne _ (hm X hX) (by rw [e]; rfl)) (fun X hX x hx => hO.le x (mem_flatten.mpr ⟨X, hX, hx⟩)) hO.kr (fun X hX => h.t_lo _ (hm X hX))
  have hB : wts B = P.map List.sum := by rw [b1, ← hP, map_map]; rfl
  have h1 := h.top_lo (cost B) ⟨B, by rw [hB], ⟨b2, Nat.le_trans b3 hO.kr⟩, Int.le_refl _⟩
  have e : (P.map t).sum = (Xs.map fun X => t (wts X)).sum := by rw [← hP, map_map]; rfl
  rw [e]; lia
theorem Law.even (h : Law most cs P t top one) {Xs : List Cd} (hP : Xs.map wts = P) (hO : Ok most Xs.flatten) (hs : ∀ X ∈ Xs, ∃ j : Nat, kr most X = 2 ^ j) : (P.map t).sum + top ≤ cost Xs.flatten := by
  have h1 := h.core hP hO
  have e : (Xs.map (exE most)).sum = 0 := by
    have : Xs.map (exE most) = Xs.map fun _ => (0 : Int) * 0 := map_congr_left fun X hX => by
      obtain ⟨j, hj⟩ := hs X hX
      unfold exE
      rw [hj, Nat.log2_two_pow, if_pos rfl]; rfl
    rw [this, sumI_mul]; simp
  lia
theorem Law.over (h : Law most cs P t top one) : (P.map t).sum + top ≤ one + ((P.filter fun p => decide (1 < p.length)).map List.sum).sum := by
  obtain ⟨X, x1, x2, x3⟩ := (h.one_hi.perm h.perm.symm).real
  obtain ⟨Xs, e1, e2⟩ := split_groups P X x1
  subst e1
  have h1 := h.core e2 x2
  have h2 : (Xs.map (exE most)).sum ≤ (Xs.map fun X => if 1 < (wts X).length then (wts X).sum else 0).sum := sumI_le fun X hX => by
    have hm : wts X ∈ P := by rw [← e2]; exact mem_map_of_mem hX
    have h0 : 0 ≤ (wts X).sum := sumI_nonneg fun c hc => Int.le_of_lt (h.pos c (h.perm.mem_iff.mp (mem_flatten.mpr ⟨_, hm, hc⟩)))
    split
    · unfold exE; split <;> lia
    next hl =>
      match X, hm, hl with
      | [], hm, _ => exact absurd rfl (h.ne _ hm)
      | [x], _, _ =>
        unfold exE
        have : kr most [x] = 2 ^ (most - x.2) := by simp [kr]
        rw [this, Nat.log2_two_pow, if_pos rfl]; exact Int.le_refl _
      | x :: y :: X, _, hl => simp [wts] at hl
  have e : (Xs.map fun X => if 1 < (wts X).length then (wts X).sum else 0).sum = ((P.filter fun p => decide (1 < p.length)).map List.sum).sum := by
    rw [← e2]
    clear h1 h2 x1 x2 x3 e2
    induction Xs with
    | nil => rfl
    | cons X Xs ih =>
      rw [map_cons, sum_cons, ih, map_cons, filter_cons]
      by_cases hl : 1 < (wts X).length
      · simp only [hl, if_true, decide_true, map_cons, sum_cons]
      · simp only [hl, if_false, decide_false, Bool.false_eq_true, Int.zero_add]
  lia
/-- how often the whole is halved -/
noncomputable def kfW (W : Int) (c : Int) : Nat := if h : ∃ k : Nat, k < 10 ∧ c * 2 ^ k = W then h.choose else 0
theorem kfW_ok {W c : Int} (h : ∃ k : Nat, k < 10 ∧ c * 2 ^ k = W) : kfW W c < 10 ∧ c * 2 ^ kfW W c = W := by
  unfold kfW
  rw [dif_pos h]
  exact h.choose_spec
theorem kfCode {Y : List Int} {W : Int} : wts (Y.map fun c => (c, kfW W c)) = Y := by unfold wts; rw [map_map]; simp [Function.comp_def]
theorem sum_pos' {l : List Int} (h : ∀ c ∈ l, 0 < c) (hne : l ≠ []) : 0 < l.sum := by
  cases l with
  | nil => exact absurd rfl hne
  | cons a l =>
    have h1 := h a (mem_cons_self ..)
    have h2 := sumI_nonneg (l := l) fun c hc => Int.le_of_lt (h c (mem_cons_of_mem _ hc))
    rw [sum_cons]; lia
theorem Law.halves (h : Law most cs P t top one) (hn : cs.length ≤ most + 1) (hne : cs ≠ []) (hm9 : most ≤ 9) (hd : ∀ c ∈ cs, ∃ k : Nat, k < 10 ∧ c * 2 ^ k = cs.sum) :
    one = (P.map t).sum + top ↔ ∀ p ∈ P, ∃ k : Nat, k < 10 ∧ p.sum * 2 ^ k = cs.sum := by
  have hp2 : ∀ k : Nat, (0 : Int) < 2 ^ k := fun k => Int.pow_pos (by decide)
  have hW := sum_pos' h.pos hne
  have hsum : P.flatten.sum = cs.sum := permSumI h.perm
  have hPc : ∀ c ∈ P.flatten, 0 < c ∧ kfW cs.sum c < 10 ∧ c * 2 ^ kfW cs.sum c = cs.sum := fun c hc =>
    have hc' := h.perm.mem_iff.mp hc
    ⟨h.pos c hc', kfW_ok (hd c hc')⟩
  generalize cs.sum = W at hW hsum hPc hd ⊢
  -- the lengths that say how often
  have k9 : W * (kr 9 (P.flatten.map fun c => (c, kfW W c)) : Int) = 2 ^ 9 * W := by
    rw [dy_kr (W := W) (L := 9) fun y hy => by
      obtain ⟨c, hc, rfl⟩ := mem_map.mp hy
      have := hPc c hc
      exact ⟨this.2.2, by show kfW W c ≤ 9; lia⟩, kfCode, hsum]
  have k9' : kr 9 (P.flatten.map fun c => (c, kfW W c)) = 2 ^ 9 := by
    rw [Int.mul_comm] at k9
    have := Int.eq_of_mul_eq_mul_right (Int.ne_of_gt hW) k9
    exact_mod_cast this
  have hle9 : ∀ x ∈ P.flatten.map fun c => (c, kfW W c), x.2 ≤ 9 := fun x hx => by
    obtain ⟨c, hc, rfl⟩ := mem_map.mp hx
    have := hPc c hc
    show kfW W c ≤ 9; lia
  have hlen : P.flatten.length = cs.length := h.perm.length_eq
  have hkm : ∀ x ∈ P.flatten.map fun c => (c, kfW W c), x.2 ≤ most := fun x hx => by
    have := full_len _ _ rfl hle9 k9' x hx
    rw [length_map, hlen] at this; lia
  have hOk : Ok most (P.flatten.map fun c => (c, kfW W c)) := (⟨hle9, by rw [k9']; exact Nat.le_refl _⟩ : Ok 9 _).drop hkm
  have hck : ∀ Y : Cd, wts Y = P.flatten → (Y.map fun y => y.1 * (kfW W y.1 : Int)).sum = cost (P.flatten.map fun c => (c, kfW W c)) := fun Y hY => by
    rw [← hY]
    unfold cost wts
    rw [map_map, map_map]
    rfl
  have hgib : ∀ (L : Nat) (Y : Cd), wts Y = P.flatten → Ok L Y → cost (P.flatten.map fun c => (c, kfW W c)) ≤ cost Y ∧ (cost Y ≤ cost (P.flatten.map fun c => (c, kfW W c)) → ∀ y ∈ Y, y.2 = kfW W y.1) := fun L Y hY hO => by
    have := gibbs (W := W) (L := L) (kf := kfW W) (Y := Y) (fun y hy => by
      have := hPc y.1 (by rw [← hY]; exact mem_map_of_mem hy)
      exact ⟨this.1, this.2.2⟩) (by rw [hY]; exact hsum) hO
    rw [hck Y hY] at this
    exact this
  have hone : one = cost (P.flatten.map fun c => (c, kfW W c)) := by
    refine Int.le_antisymm (h.one_lo _ ⟨_, by rw [kfCode]; exact h.perm, hOk, Int.le_refl _⟩) ?_
    obtain ⟨X, x1, x2, x3⟩ := (h.one_hi.perm h.perm.symm).real
    exact Int.le_trans (hgib most X x1 x2).1 x3
  constructor
  · intro he
    obtain ⟨B, b1, b2, b3⟩ := h.top_hi.real
    obtain ⟨Y, y1, y2, y3⟩ := pick P B b1 h.t_hi
    obtain ⟨c1, c2⟩ := pick_top b1 y1 y2
    have hY : ∀ y ∈ Y, (∀ x ∈ y.1, x.2 ≤ most) ∧ y.2 ≤ most := fun y hy => ⟨(y3 y hy).1.le, by
      have : y.2 ∈ B.map (fun b => b.2) := by rw [← y2]; exact mem_map_of_mem hy
      obtain ⟨b, hb, e⟩ := mem_map.mp this
      have := b2.le b hb; lia⟩
    have hcO : Ok (most + most) (comp Y) := by
      refine ⟨fun x hx => ?_, ?_⟩
      · obtain ⟨A, hA, hx⟩ := mem_flatten.mp hx
        obtain ⟨y, hy, rfl⟩ := mem_map.mp hA
        obtain ⟨z, hz, rfl⟩ := mem_map.mp hx
        have := (hY y hy).1 z hz
        have := (hY y hy).2
        show z.2 + y.2 ≤ _; lia
      · rw [comp_kr hY]
        refine Nat.le_trans (sumN_le (g := fun y => 2 ^ most * 2 ^ (most - y.2)) fun y hy => ?_) ?_
        · rw [Nat.mul_comm]; exact Nat.mul_le_mul_right _ (y3 y hy).1.kr
        · rw [sumN_mul, c2, Nat.pow_add]; exact Nat.mul_le_mul_left _ b2.kr
    have hcc : cost (comp Y) ≤ one := by
      rw [comp_cost, c1, he]
      have : (Y.map fun y => cost y.1).sum ≤ (P.map t).sum := by
        rw [← y1, map_map]
        exact sumI_le fun y hy => (y3 y hy).2
      lia
    have hun := (hgib _ (comp Y) (by rw [comp_wts, y1]) hcO).2 (by rw [← hone]; exact hcc)
    -- each group: S * 2^b ≤ W
    have hgrp : ∀ y ∈ Y, W * (kr most y.1 : Int) = 2 ^ most * ((wts y.1).sum * 2 ^ y.2) := fun y hy => by
      have hz : ∀ z ∈ y.1, z.1 * 2 ^ (z.2 + y.2) = W := fun z hz => by
        have hm : (z.1, z.2 + y.2) ∈ comp Y := mem_flatten.mpr ⟨shift y.2 y.1, mem_map_of_mem hy, mem_map.mpr ⟨z, hz, rfl⟩⟩
        have h1 := hun _ hm
        have h2 : z.1 ∈ P.flatten := by
          rw [← y1]
          exact mem_flatten.mpr ⟨wts y.1, mem_map_of_mem hy, mem_map_of_mem hz⟩
        have h3 := (hPc z.1 h2).2.2
        dsimp only at h1
        rw [← h1] at h3; exact h3
      have hle := (hY y hy).1
      generalize y.1 = A at hz hle
      generalize y.2 = b at hz
      clear hun hcc hcO c1 c2 y1 y2 y3 hy hY
      induction A with
      | nil => simp [kr, wts]
      | cons z A ih =>
        have h1 := hz z (mem_cons_self ..)
        have h2 := hle z (mem_cons_self ..)
        rw [kr_cons, Int.natCast_add, Int.mul_add, ih (fun w hw => hle w (mem_cons_of_mem _ hw)) (fun w hw => hz w (mem_cons_of_mem _ hw)), wts_cons, sum_cons, Int.add_mul, Int.mul_add]
        have e : W * ((2 ^ (most - z.2) : Nat) : Int) = 2 ^ most * (z.1 * 2 ^ b) := by
          rw [← h1, Int.natCast_pow, show ((2 : Nat) : Int) = 2 from rfl, Int.mul_assoc, ← Int.pow_add, show z.2 + b + (most - z.2) = most + b by lia, Int.pow_add, ← Int.mul_assoc, ← Int.mul_assoc, Int.mul_comm z.1]
        rw [e]
    have hgle : ∀ y ∈ Y, 2 ^ most * (wts y.1).sum ≤ W * 2 ^ (most - y.2) := fun y hy => by
      have h1 := hgrp y hy
      have h2 := (y3 y hy).1.kr
      have h3 : ((kr most y.1 : Nat) : Int) ≤ 2 ^ most := by
        have : ((kr most y.1 : Nat) : Int) ≤ ((2 ^ most : Nat) : Int) := by exact_mod_cast h2
        rw [Int.natCast_pow] at this; exact this
      have h4 : 2 ^ most * ((wts y.1).sum * 2 ^ y.2) ≤ W * 2 ^ most := by rw [← h1]; exact Int.mul_le_mul_of_nonneg_left h3 (Int.le_of_lt hW)
      have h5 : (2 : Int) ^ most = 2 ^ (most - y.2) * 2 ^ y.2 := by rw [← Int.pow_add, show most - y.2 + y.2 = most by have := (hY y hy).2; lia]
      have h6 : 2 ^ most * (wts y.1).sum * 2 ^ y.2 ≤ W * 2 ^ (most - y.2) * 2 ^ y.2 := by
        rw [Int.mul_assoc, Int.mul_assoc W, ← h5]; exact h4
      exact Int.le_of_mul_le_mul_right h6 (hp2 _)
    have hall : ∀ y ∈ Y, 2 ^ most * (wts y.1).sum = W * 2 ^ (most - y.2) := fun y hy => by
      refine Int.le_antisymm (hgle y hy) ?_
      rcases Int.lt_or_le (2 ^ most * (wts y.1).sum) (W * 2 ^ (most - y.2)) with hlt | hge
      · exfalso
        have h1 := sumI_lt hgle ⟨y, hy, hlt⟩
        rw [sumI_mul, sumI_mul] at h1
        have e1 : (Y.map fun y => (wts y.1).sum).sum = W := by
          rw [← hsum, sum_perm_flat, ← y1, map_map]; rfl
        have e2 : (Y.map fun y => (2 : Int) ^ (most - y.2)).sum = ((kr most B : Nat) : Int) := by
          rw [← c2 most]
          clear h1 hlt hy hgle hgrp hun hcc hcO c1 c2 y1 y2 y3 hY e1
          induction Y with
          | nil => rfl
          | cons y Y ih => rw [map_cons, sum_cons, ih, map_cons, sum_cons, Int.natCast_add, Int.natCast_pow]; rfl
        rw [e1, e2, Int.mul_comm] at h1
        have h3 : ((kr most B : Nat) : Int) ≤ 2 ^ most := by
          have : ((kr most B : Nat) : Int) ≤ ((2 ^ most : Nat) : Int) := by exact_mod_cast b2.kr
          rw [Int.natCast_pow] at this; exact this
        have := Int.mul_le_mul_of_nonneg_left h3 (Int.le_of_lt hW)
        lia
      · exact hge
    intro p hp
    rw [← y1] at hp
    obtain ⟨y, hy, rfl⟩ := mem_map.mp hp
    have hb := (hY y hy).2
    refine ⟨y.2, by lia, ?_⟩
    have h1 := hall y hy
    have h5 : (2 : Int) ^ most = 2 ^ (most - y.2) * 2 ^ y.2 := by rw [← Int.pow_add, show most - y.2 + y.2 = most by lia]
    rw [h5, Int.mul_comm W, Int.mul_assoc] at h1
    have := Int.eq_of_mul_eq_mul_left (Int.ne_of_gt (hp2 (most - y.2))) h1
    rw [Int.mul_comm]; exact this
  · intro hs
    refine Int.le_antisymm (h.le hn) ?_
    obtain ⟨Xs, e1, e2⟩ := split_groups P (P.flatten.map fun c => (c, kfW W c)) kfCode
    rw [e1] at hOk hone hkm
    rw [hone]
    refine h.even e2 hOk fun X hX => ?_
    have hP : wts X ∈ P := by rw [← e2]; exact mem_map_of_mem hX
    have hXk : ∀ x ∈ X, x.1 * 2 ^ x.2 = W ∧ x.2 ≤ most := fun x hx => by
      have hm : x ∈ Xs.flatten := mem_flatten.mpr ⟨X, hX, hx⟩
      refine ⟨?_, hkm x hm⟩
      rw [← e1] at hm
      obtain ⟨c, hc, rfl⟩ := mem_map.mp hm
      exact (hPc c hc).2.2
    obtain ⟨m, _, hm⟩ := hs _ hP
    have h1 := dy_kr hXk
    have hS : 0 < (wts X).sum := sum_pos' (fun c hc => (hPc c (mem_flatten.mpr ⟨_, hP, hc⟩)).1) (h.ne _ hP)
    rw [← hm, Int.mul_assoc, Int.mul_comm _ (wts X).sum] at h1
    have h2 := Int.eq_of_mul_eq_mul_left (Int.ne_of_gt hS) h1
    have h3 : 2 ^ m * kr most X = 2 ^ most := by
      have : ((2 ^ m * kr most X : Nat) : Int) = ((2 ^ most : Nat) : Int) := by
        rw [Int.natCast_mul, Int.natCast_pow, Int.natCast_pow]; exact h2
      exact_mod_cast this
    have hmm : m ≤ most := by
      have := kr_pos (L := most) (X := X) (fun e => h.ne _ hP (by rw [e]; rfl))
      exact (Nat.pow_le_pow_iff_right (by decide)).mp (show 2 ^ m ≤ 2 ^ most by rw [← h3]; exact Nat.le_mul_of_pos_right _ this)
    refine ⟨most - m, ?_⟩
    have h4 : 2 ^ m * kr most X = 2 ^ m * 2 ^ (most - m) := by rw [h3, ← Nat.pow_add, show m + (most - m) = most by lia]
    exact Nat.eq_of_mul_eq_mul_left (Nat.two_pow_pos _) h4
end Mine
end

section
namespace Mine
open List
theorem part_idem (r : List Int) : partF (partF r) = partF r := by
  unfold partF; rw [filter_filter]; simp
theorem totF_part {r : List Int} {L : Nat} (h : (partF r).length ≤ 2 ^ L) : totF (partF r) L = totF r L := by
  have h1 : totF (partF r) L ≤ totF r L := opt_lo (by rw [part_idem]; exact opt_hi h)
  have h2 : totF r L ≤ totF (partF r) L := opt_lo (by have := opt_hi (cs := partF r) (L := L) (by rw [part_idem]; exact h); rwa [part_idem] at this)
  lia
theorem totF_empty {r : List Int} {L : Nat} (h : partF r = []) : totF r L = 0 := by
  unfold totF
  rw [posL_plen, h]; rfl
theorem apart_used {L : Nat} : ∀ {rows : List (List Int)}, (∀ r ∈ rows, (partF r).length ≤ 2 ^ L) → apartF rows L = ((usedF rows).map fun p => totF p L).sum
  | [], _ => rfl
  | r :: rows, h => by
    have ih := apart_used (rows := rows) fun x hx => h x (mem_cons_of_mem _ hx)
    unfold apartF usedF at ih ⊢
    rw [map_cons, sum_cons, ih, map_cons, filter_cons]
    cases hp : partF r with
    | nil =>
      rw [totF_empty hp]; simp
    | cons a l =>
      have e : totF r L = totF (a :: l) L := by rw [← hp]; exact (totF_part (h r (mem_cons_self ..))).symm
      simp [e]
theorem part_sum {r : List Int} (h : ∀ c ∈ r, 0 ≤ c) : (partF r).sum = r.sum := by
  induction r with
  | nil => rfl
  | cons a r ih =>
    have h1 := h a (mem_cons_self ..)
    have h2 := ih fun c hc => h c (mem_cons_of_mem _ hc)
    unfold partF at h2 ⊢
    rw [filter_cons]
    by_cases ha : 0 < a
    · simp only [ha, decide_true, if_true, sum_cons, h2]
    · have : a = 0 := by lia
      subst this
      simp only [Int.lt_irrefl, decide_false, Bool.false_eq_true, if_false, sum_cons, h2, Int.zero_add]
theorem used_sums : ∀ {rows : List (List Int)}, (∀ r ∈ rows, ∀ c ∈ r, 0 ≤ c) → partF (rows.map List.sum) = (usedF rows).map List.sum
  | [], _ => rfl
  | r :: rows, h => by
    have ih := used_sums (rows := rows) fun x hx => h x (mem_cons_of_mem _ hx)
    have hs := part_sum (h r (mem_cons_self ..))
    unfold partF usedF at ih ⊢
    rw [map_cons, map_cons, filter_cons, filter_cons, ih]
    cases hp : partF r with
    | nil =>
      rw [hp] at hs
      have e : r.sum = 0 := by rw [← hs]; rfl
      rw [e]; simp
    | cons a l =>
      have : 0 < r.sum := by
        rw [← hs]
        exact sum_pos' (fun c hc => part_pos hc) (by rw [hp]; simp)
      have e : (a :: l).sum = r.sum := by rw [← hp]; exact hs
      simp only [this, decide_true, if_true, isEmpty_cons, Bool.not_false, map_cons, e]
theorem used_flat (rows : List (List Int)) : (usedF rows).flatten = (rows.map partF).flatten := by
  unfold usedF
  induction rows.map partF with
  | nil => rfl
  | cons p l ih =>
    rw [filter_cons]
    cases p with
    | nil => simpa using ih
    | cons a p => simp [ih]
theorem used_mem {rows : List (List Int)} {p : List Int} (h : p ∈ usedF rows) : p ≠ [] ∧ ∃ r ∈ rows, partF r = p := by
  unfold usedF at h
  obtain ⟨h1, h2⟩ := mem_filter.mp h
  obtain ⟨r, hr, e⟩ := mem_map.mp h1
  exact ⟨fun e => (by rw [e] at h2; cases h2), r, hr, e⟩
-- groups by labels
def grp {α : Type} (z : List α) (gs : List Int) (k : Nat) : List α := ((z.zip gs).filter fun p => p.2 == (k : Int)).map fun p => p.1
theorem grp_cons {α : Type} (a : α) (z : List α) (g : Int) (gs : List Int) (k : Nat) : grp (a :: z) (g :: gs) k = if g = (k : Int) then a :: grp z gs k else grp z gs k := by
  unfold grp
  rw [zip_cons_cons, filter_cons]
  by_cases h : g = (k : Int)
  · rw [if_pos h, if_pos (by simpa using h)]; rfl
  · rw [if_neg h, if_neg (by simpa using h)]
theorem grp_flat1 {α : Type} (a : α) (z : List α) (g : Int) (gs : List Int) : ∀ N : Nat,
    (g < N → 0 ≤ g → ((range N).map (grp (a :: z) (g :: gs))).flatten.Perm (a :: ((range N).map (grp z gs)).flatten)) ∧
    (¬ (g < N ∧ 0 ≤ g) → ((range N).map (grp (a :: z) (g :: gs))).flatten = ((range N).map (grp z gs)).flatten)
  | 0 => ⟨fun h h0 => by lia, fun _ => rfl⟩
  | N + 1 => by
    obtain ⟨h1, h2⟩ := grp_flat1 a z g gs N
    rw [range_succ, map_append, flatten_append, map_append, flatten_append]
    simp only [map_cons, map_nil, flatten_cons, flatten_nil, append_nil]
    refine ⟨fun h h0 => ?_, fun h => ?_⟩
    · by_cases hg : g = (N : Int)
      · rw [h2 (by lia), grp_cons, if_pos hg]; exact perm_middle
      · rw [grp_cons, if_neg hg]
        exact (h1 (by lia) h0).append_right _
    · rw [h2 (by lia), grp_cons, if_neg (by lia)]
theorem grp_flat {α : Type} (N : Nat) : ∀ (z : List α) (gs : List Int), gs.length = z.length → (∀ g ∈ gs, 0 ≤ g ∧ g < N) → ((range N).map (grp z gs)).flatten.Perm z
  | [], gs, _, _ => by
    have : ((range N).map (grp ([] : List α) gs)).flatten = [] := by
      rw [flatten_eq_nil_iff]
      intro l hl
      obtain ⟨k, _, rfl⟩ := mem_map.mp hl
      simp [grp]
    rw [this]
  | a :: z, [], h, _ => by simp at h
  | a :: z, g :: gs, h, hg => by
    have h1 := hg g (mem_cons_self ..)
    refine ((grp_flat1 a z g gs N).1 h1.2 h1.1).trans ((grp_flat N z gs (by simpa using h) fun x hx => hg x (mem_cons_of_mem _ hx)).cons a)
theorem row_part {cs gs : List Int} (hc : ∀ c ∈ cs, 0 < c) (k : Nat) : partF ((cs.zip gs).map fun p => if p.2 == (k : Int) then p.1 else 0) = grp cs gs k := by
  have hz : ∀ p ∈ cs.zip gs, 0 < p.1 := fun p hp => hc p.1 (of_mem_zip hp).1
  unfold partF grp
  generalize cs.zip gs = z at hz
  induction z with
  | nil => rfl
  | cons p z ih =>
    have h1 := hz p (mem_cons_self ..)
    have h2 := ih fun q hq => hz q (mem_cons_of_mem _ hq)
    rw [map_cons, filter_cons, filter_cons, h2]
    by_cases h : p.2 = (k : Int)
    · have e : (p.2 == (k : Int)) = true := by simpa using h
      simp only [e, if_true, h1, decide_true, map_cons]
    · have e : (p.2 == (k : Int)) = false := by simpa using h
      simp only [e, Bool.false_eq_true, if_false, Int.lt_irrefl, decide_false]
theorem rows_part {cs gs : List Int} {N : Nat} (hc : ∀ c ∈ cs, 0 < c) : (rowsF cs gs N).map partF = (range N).map (grp cs gs) := by
  unfold rowsF
  rw [map_map]
  exact map_congr_left fun k _ => row_part hc k
theorem used_perm {cs gs : List Int} {N : Nat} (hc : ∀ c ∈ cs, 0 < c) (hl : gs.length = cs.length) (hg : ∀ g ∈ gs, 0 ≤ g ∧ g < N) : (usedF (rowsF cs gs N)).flatten.Perm cs := by
  rw [used_flat, rows_part hc]
  exact grp_flat N cs gs hl hg
-- what is saved
theorem sav_fold (o : List Int) : ∀ (l : List Int) (acc : Int), l.foldl (savStep o) acc = acc + savO (o.getD 0 0) (o.getD 1 0) (l.filter fun c => decide (0 < c))
  | [], acc => by simp [savO]
  | c :: l, acc => by
    rw [foldl_cons, sav_fold o l, filter_cons]
    unfold savStep
    by_cases h : 0 < c
    · simp only [h, if_true, decide_true, savO, map_cons, sum_cons, oth]; lia
    · simp only [h, if_false, decide_false, Bool.false_eq_true]
def sv (o : List Int) (row : List Int) : Int := savO (o.getD 0 0) (o.getD 1 0) ((sortI row).dropLast.filter fun c => decide (0 < c))
theorem savF_sum (cs : List Int) (rows : List (List Int)) : savF cs rows = (rows.map (sv (sortI cs))).sum := by
  have : ∀ (rows : List (List Int)) (acc : Int), rows.foldl (fun acc row => (sortI row).dropLast.foldl (savStep (sortI cs)) acc) acc = acc + (rows.map (sv (sortI cs))).sum := by
    intro rows
    induction rows with
    | nil => intro acc; simp
    | cons r rows ih =>
      intro acc
      rw [foldl_cons, ih, sav_fold, map_cons, sum_cons]
      unfold sv; lia
  unfold savF
  rw [this]; lia
theorem sv_row (o row : List Int) : (partF row = [] ∧ sv o row = 0) ∨ ∃ ps g, (partF row).Perm (ps ++ [g]) ∧ (∀ c ∈ ps, c ≤ g) ∧ sv o row = savO (o.getD 0 0) (o.getD 1 0) ps := by
  have hp := sortI_perm row
  have hs := sortI_sorted row
  unfold sv
  generalize sortI row = ms at hp hs
  have hpf : (partF row).Perm (ms.filter fun c => decide (0 < c)) := (hp.filter _).symm
  rcases List.eq_nil_or_concat ms with e | ⟨init, g, e⟩
  · left
    subst e
    exact ⟨hpf.eq_nil, by simp [savO]⟩
  · have e : ms = init ++ [g] := by rw [e, concat_eq_append]
    subst e
    have hle : ∀ c ∈ init, c ≤ g := fun c hc => (pairwise_append.mp hs).2.2 c hc g (mem_singleton.mpr rfl)
    rw [filter_append] at hpf
    rw [dropLast_concat]
    by_cases h : 0 < g
    · right
      refine ⟨init.filter fun c => decide (0 < c), g, ?_, fun c hc => hle c (mem_filter.mp hc).1, rfl⟩
      simpa [h] using hpf
    · left
      have h1 : init.filter (fun c => decide (0 < c)) = [] := filter_eq_nil_iff.mpr fun c hc => by have := hle c hc; simp; lia
      rw [h1] at hpf ⊢
      refine ⟨?_, by simp [savO]⟩
      simp [h] at hpf
      exact hpf
theorem saved {L : Nat} {o : List Int} : ∀ (rows : List (List Int)) (done : List Int) (v : Int), Inv (o.getD 0 0) (o.getD 1 0) ((usedF rows).flatten ++ done) → Reach L ((usedF rows).flatten ++ done) v →
    Reach L ((usedF rows).map List.sum ++ done) (v - (rows.map (sv o)).sum)
  | [], done, v, _, hr => by
    have : v - (([] : List (List Int)).map (sv o)).sum = v := by simp
    rw [this]; exact hr
  | r :: rows, done, v, hi, hr => by
    rw [map_cons, sum_cons]
    rcases sv_row o r with ⟨h1, h2⟩ | ⟨ps, g, h1, h2, h3⟩
    · have e : usedF (r :: rows) = usedF rows := by unfold usedF; rw [map_cons, filter_cons, h1]; rfl
      rw [e] at hi hr ⊢
      rw [h2]
      exact (saved rows done v hi hr).mono (by lia)
    · have hne : partF r ≠ [] := fun e => by
        rw [e] at h1
        have := h1.symm.eq_nil
        simp at this
      have e : usedF (r :: rows) = partF r :: usedF rows := by
        unfold usedF
        rw [map_cons, filter_cons]
        cases hp : partF r with
        | nil => exact absurd hp hne
        | cons a l => rfl
      rw [e, flatten_cons] at hi hr
      rw [e, map_cons, h3]
      have hp : ((partF r ++ (usedF rows).flatten) ++ done).Perm (ps ++ g :: ((usedF rows).flatten ++ done)) := by
        rw [append_assoc]
        refine (h1.append_right _).trans ?_
        rw [append_assoc]; exact .refl _
      obtain ⟨i1, i2⟩ := Inv.group ps (hi.perm hp) h2 (hr.perm hp)
      have hps : ps.sum + g = (partF r).sum := by
        have := permSumI h1
        rw [this, sum_append]; simp
      rw [hps] at i1 i2
      have hp2 : ((partF r).sum :: ((usedF rows).flatten ++ done)).Perm ((usedF rows).flatten ++ (partF r).sum :: done) := perm_middle.symm
      exact ((saved rows ((partF r).sum :: done) _ (i1.perm hp2) (i2.perm hp2)).perm perm_middle).mono (by lia)
theorem inv_start {cs : List Int} (h2 : 2 ≤ cs.length) (hc : ∀ c ∈ cs, 0 ≤ c) : Inv ((sortI cs).getD 0 0) ((sortI cs).getD 1 0) cs := by
  have hp := sortI_perm cs
  have hs := sortI_sorted cs
  refine Inv.perm ?_ hp
  have hl : 2 ≤ (sortI cs).length := by rw [hp.length_eq]; exact h2
  have hc' : ∀ c ∈ sortI cs, 0 ≤ c := fun c h => hc c (hp.mem_iff.mp h)
  generalize sortI cs = o at hs hl hc'
  match o, hl, hs, hc' with
  | a :: b :: l, _, hs, hc' =>
    show Inv a b (a :: b :: l)
    have h1 := pairwise_cons.mp hs
    have h3 := pairwise_cons.mp h1.2
    have hb : ∀ x ∈ b :: l, b ≤ x := fun x hx => by
      rcases mem_cons.mp hx with e | e
      · lia
      · exact h3.1 x e
    refine ⟨hc' a (mem_cons_self ..), h1.1 b (mem_cons_self ..), fun x hx => ?_, pairwise_cons.mpr ⟨fun x hx => .inr (hb x hx), ?_⟩⟩
    · rcases mem_cons.mp hx with e | e
      · lia
      · exact h1.1 x e
    · exact Pairwise.imp_of_mem (fun {x y} hx hy _ => .inl (hb x hx)) h1.2
theorem minI_le {p : List Int} {x : Int} (hx : x ∈ p) : minI p ≤ x := by
  have hp := sortI_perm p
  have hs := sortI_sorted p
  have hx' := hp.mem_iff.mpr hx
  unfold minI
  generalize sortI p = o at hs hx'
  cases o with
  | nil => cases hx'
  | cons a l =>
    show a ≤ x
    rcases mem_cons.mp hx' with e | e
    · lia
    · exact (pairwise_cons.mp hs).1 x e
end Mine
end

section
namespace Mine
open List
theorem evenM_ok : ∀ m : Nat, m ≤ 9 → m ≤ 2 ^ evenN m := by decide
theorem flat_len {m : Nat} : ∀ {P : List (List Int)}, (∀ p ∈ P, p.length ≤ m) → P.flatten.length ≤ P.length * m
  | [], _ => by simp
  | p :: P, h => by
    have h1 := h p (mem_cons_self ..)
    have h2 := flat_len (P := P) fun q hq => h q (mem_cons_of_mem _ hq)
    rw [flatten_cons, length_append, length_cons, Nat.add_mul]; lia
theorem flat_ge : ∀ {P : List (List Int)}, (∀ p ∈ P, p ≠ []) → P.length ≤ P.flatten.length
  | [], _ => by simp
  | p :: P, h => by
    have h1 := length_pos_iff.mpr (h p (mem_cons_self ..))
    have h2 := flat_ge (P := P) fun q hq => h q (mem_cons_of_mem _ hq)
    rw [flatten_cons, length_append, length_cons]; lia
theorem flat_mem : ∀ {P : List (List Int)} {p : List Int}, p ∈ P → p.length ≤ P.flatten.length
  | q :: P, p, h => by
    rw [flatten_cons, length_append]
    rcases mem_cons.mp h with e | e
    · rw [e]; lia
    · have := flat_mem e; lia
theorem part_all {cs : List Int} (hc : ∀ c ∈ cs, 0 < c) : partF cs = cs := by
  unfold partF
  exact filter_eq_self.mpr fun c h => by simpa using hc c h
theorem rows_nonneg {cs gs : List Int} {N : Nat} (hc : ∀ c ∈ cs, 0 < c) : ∀ r ∈ rowsF cs gs N, ∀ c ∈ r, 0 ≤ c := fun r hr c h => by
  unfold rowsF at hr
  obtain ⟨k, _, rfl⟩ := mem_map.mp hr
  obtain ⟨p, hp, rfl⟩ := mem_map.mp h
  have := hc p.1 (of_mem_zip hp).1
  split <;> lia
theorem used_part {rows : List (List Int)} {p : List Int} (h : p ∈ usedF rows) : partF p = p := by
  obtain ⟨_, r, _, e⟩ := used_mem h
  rw [← e, part_idem]
theorem mf_law {cs gs : List Int} {N L : Nat} (h2 : 2 ≤ cs.length) (hl : gs.length = cs.length) (hc : ∀ c ∈ cs, 0 < c) (hg : ∀ g ∈ gs, 0 ≤ g ∧ g < N) (hn : cs.length ≤ 2 ^ L) :
    Law L cs (usedF (rowsF cs gs N)) (fun p => totF p L) (totF ((rowsF cs gs N).map List.sum) L) (totI cs (lsF cs L)) := by
  have hperm := used_perm hc hl hg
  have hlen := hperm.length_eq
  have hne : ∀ p ∈ usedF (rowsF cs gs N), p ≠ [] := fun p hp => (used_mem hp).1
  have hus := used_sums (rows_nonneg (gs := gs) (N := N) hc)
  have hone : totI cs (lsF cs L) = totF cs L := by
    unfold totF
    rw [if_neg]
    rw [posL_plen, part_all hc]; lia
  exact {
    perm := hperm
    pos := hc
    ne := hne
    t_hi := fun p hp => by
      have := opt_hi (cs := p) (L := L) (by rw [used_part hp]; have := flat_mem hp; lia)
      rwa [used_part hp] at this
    t_lo := fun p hp v h => opt_lo (by rw [used_part hp]; exact h)
    top_hi := by
      have := opt_hi (cs := (rowsF cs gs N).map List.sum) (L := L) (by rw [hus, length_map]; have := flat_ge hne; lia)
      rwa [hus] at this
    top_lo := fun v h => opt_lo (by rw [hus]; exact h)
    one_hi := by
      rw [hone]
      have := opt_hi (cs := cs) (L := L) (by rw [part_all hc]; exact hn)
      rwa [part_all hc] at this
    one_lo := fun v h => by rw [hone]; exact opt_lo (by rw [part_all hc]; exact h) }
theorem grp_map {α β : Type} (f : α → β) : ∀ (z : List α) (gs : List Int) (k : Nat), grp (z.map f) gs k = (grp z gs k).map f
  | [], gs, k => by simp [grp]
  | a :: z, [], k => by simp [grp]
  | a :: z, g :: gs, k => by
    rw [map_cons, grp_cons, grp_cons, grp_map f z gs k]
    split <;> rfl
theorem codeF_zip {cs : List Int} {L : Nat} (hc : ∀ c ∈ cs, 0 < c) : codeF cs L = cs.zip ((lsF cs L).map Int.toNat) := by
  have hl := lsF_len cs L
  unfold codeF posL
  rw [filter_eq_self.mpr fun p hp => by
    have := mem_zipIdx_iff_getElem?.mp (show (p.1, p.2) ∈ cs.zipIdx from hp)
    simpa using hc p.1 (mem_of_getElem? this), map_map]
  apply ext_getElem?
  intro i
  rw [getElem?_map, getElem?_zipIdx]
  by_cases h : i < cs.length
  · rw [getElem?_eq_getElem h]
    have h2 : i < (lsF cs L).length := by lia
    have : (cs.zip ((lsF cs L).map Int.toNat))[i]? = some (cs[i], ((lsF cs L)[i]).toNat) := by
      rw [getElem?_zip_eq_some]
      exact ⟨getElem?_eq_getElem h, by rw [getElem?_map, getElem?_eq_getElem h2]; rfl⟩
    rw [this]
    simp [getD_eq_getElem?_getD, getElem?_eq_getElem h2]
  · rw [getElem?_eq_none (l := cs) (by lia), getElem?_eq_none (by rw [length_zip]; lia)]; rfl
theorem flat_ne {α : Type} (l : List (List α)) : (l.filter fun p => !p.isEmpty).flatten = l.flatten := by
  induction l with
  | nil => rfl
  | cons p l ih =>
    rw [filter_cons]
    cases p with
    | nil => simpa using ih
    | cons a p => simp [ih]
theorem shares_even {cs gs : List Int} {N most : Nat} (h2 : 2 ≤ cs.length) (hl : gs.length = cs.length) (hc : ∀ c ∈ cs, 0 < c) (hg : ∀ g ∈ gs, 0 ≤ g ∧ g < N) (hn : cs.length ≤ 2 ^ most)
    (hs : halvF (sharesF (lsF cs most) gs N most) (2 ^ most) = true) :
    ((usedF (rowsF cs gs N)).map fun p => totF p most).sum + totF ((rowsF cs gs N).map List.sum) most ≤ totI cs (lsF cs most) := by
  have hlaw := mf_law h2 hl hc hg hn
  have hll := lsF_len cs most
  have hposl : (posL cs).length = cs.length := by rw [posL_plen, part_all hc]
  have hmf := (mf_pos cs most (by lia) (by lia)).2
  have hls : ∀ l ∈ lsF cs most, 1 ≤ l ∧ l ≤ most := fun l h => by
    obtain ⟨i, hi, rfl⟩ := mem_iff_getElem.mp h
    have hi2 : i < cs.length := by lia
    obtain ⟨l, h1, h3, h4⟩ := hmf i cs[i] (getElem?_eq_getElem hi2) (hc _ (getElem_mem hi2))
    rw [getElem?_eq_getElem hi] at h1
    injection h1 with h1
    rw [h1]; exact ⟨h3, h4⟩
  have hO : Ok most (codeF cs most) := codeF_ok (by lia) (by lia)
  rw [← codeF_cost]
  rw [codeF_zip hc] at hO ⊢
  have hw : wts (cs.zip ((lsF cs most).map Int.toNat)) = cs := map_fst_zip (by rw [length_map]; lia)
  have hz2 : (cs.zip ((lsF cs most).map Int.toNat)).map (fun x => (x.2 : Int)) = lsF cs most := by
    have e : (cs.zip ((lsF cs most).map Int.toNat)).map (fun x => (x.2 : Int)) = ((cs.zip ((lsF cs most).map Int.toNat)).map (·.2)).map fun n : Nat => (n : Int) := by rw [map_map]; rfl
    rw [e, map_snd_zip (by rw [length_map]; lia), map_map]
    have : (lsF cs most).map ((fun n : Nat => (n : Int)) ∘ Int.toNat) = (lsF cs most).map id := map_congr_left fun l h => by
      have := (hls l h).1
      show ((l.toNat : Nat) : Int) = l
      lia
    rw [this, map_id]
  have hzl : gs.length = (cs.zip ((lsF cs most).map Int.toNat)).length := by rw [length_zip, length_map]; lia
  generalize cs.zip ((lsF cs most).map Int.toNat) = z at hO hw hz2 hzl
  have hfl := grp_flat N z gs hzl hg
  rw [← flat_ne] at hfl
  have hP : (((range N).map (grp z gs)).filter fun p => !p.isEmpty).map wts = usedF (rowsF cs gs N) := by
    unfold usedF
    rw [rows_part hc]
    have e : (range N).map (grp cs gs) = ((range N).map (grp z gs)).map wts := by
      rw [map_map]
      refine map_congr_left fun k _ => ?_
      show _ = (grp z gs k).map (·.1)
      rw [← grp_map, show z.map (·.1) = cs from hw]
    rw [e]
    generalize (range N).map (grp z gs) = M
    rw [filter_map]
    congr 1
    refine filter_congr fun X _ => ?_
    show _ = !(wts X).isEmpty
    cases X <;> rfl
  have h1 := hlaw.even hP (hO.perm hfl.symm) fun X hX => by
    obtain ⟨hX1, hX2⟩ := mem_filter.mp hX
    obtain ⟨k, hk, rfl⟩ := mem_map.mp hX1
    have hne : grp z gs k ≠ [] := fun e => by rw [e] at hX2; cases hX2
    have hsh : ((((lsF cs most).zip gs).filter fun p => p.2 == (k : Int)).map fun p => (2 : Int) ^ ((most : Int) - p.1).toNat).sum = ((kr most (grp z gs k) : Nat) : Int) := by
      have e : ((((lsF cs most).zip gs).filter fun p => p.2 == (k : Int)).map fun p => (2 : Int) ^ ((most : Int) - p.1).toNat) = (grp (lsF cs most) gs k).map fun l => (2 : Int) ^ ((most : Int) - l).toNat := by
        unfold grp; rw [map_map]; rfl
      rw [e, ← hz2, grp_map, map_map, kr_cast]
      congr 1
      refine map_congr_left fun x _ => ?_
      show (2 : Int) ^ ((most : Int) - (x.2 : Int)).toNat = _
      rw [show ((most : Int) - (x.2 : Int)).toNat = most - x.2 by lia]
    have hmem : ((kr most (grp z gs k) : Nat) : Int) ∈ sharesF (lsF cs most) gs N most := by
      rw [← hsh]
      exact mem_map.mpr ⟨k, hk, rfl⟩
    have hpos := kr_pos (L := most) hne
    obtain ⟨j, _, hj⟩ := halvF_iff.mp hs _ hmem (by exact_mod_cast hpos)
    have h3 : kr most (grp z gs k) * 2 ^ j = 2 ^ most := by
      have : ((kr most (grp z gs k) * 2 ^ j : Nat) : Int) = ((2 ^ most : Nat) : Int) := by
        rw [Int.natCast_mul, Int.natCast_pow, Int.natCast_pow]; exact hj
      exact_mod_cast this
    have hjm : j ≤ most := (Nat.pow_le_pow_iff_right (by decide)).mp (show 2 ^ j ≤ 2 ^ most by rw [← h3]; exact Nat.le_mul_of_pos_left _ hpos)
    refine ⟨most - j, ?_⟩
    have h4 : kr most (grp z gs k) * 2 ^ j = 2 ^ (most - j) * 2 ^ j := by rw [h3, ← Nat.pow_add, show most - j + j = most by lia]
    exact Nat.eq_of_mul_eq_mul_right (Nat.two_pow_pos _) h4
  rw [cost_perm hfl] at h1
  exact h1
theorem mf : MF where
  pos := fun cs L _ h2 _ hn => mf_pos cs L h2 hn
  rounds := by
    intro cs gs N m inner outer most hn3 hn9 hl hc1 hg hN hm hm9 hin hout hmost hmost9
    have hc : ∀ c ∈ cs, 0 < c := fun c h => by have := hc1 c h; lia
    have hlaw := mf_law (by lia) hl hc hg hmost
    have hperm := hlaw.perm
    have hlen := hperm.length_eq
    have hU9 : (usedF (rowsF cs gs N)).length ≤ 9 := by have := flat_ge hlaw.ne; lia
    have hi : m ≤ 2 ^ inner := Nat.le_trans (evenM_ok m hm9) (Nat.pow_le_pow_right (by decide) (by lia))
    have ho : (usedF (rowsF cs gs N)).length ≤ 2 ^ outer := Nat.le_trans (evenM_ok _ hU9) (Nat.pow_le_pow_right (by decide) (by lia))
    have hrow : ∀ (L : Nat), (∀ p ∈ usedF (rowsF cs gs N), p.length ≤ 2 ^ L) → ∀ r ∈ rowsF cs gs N, (partF r).length ≤ 2 ^ L := fun L h r hr => by
      by_cases hp : partF r = []
      · rw [hp]; exact Nat.zero_le _
      · refine h _ ?_
        unfold usedF
        refine mem_filter.mpr ⟨mem_map_of_mem hr, ?_⟩
        cases hq : partF r with
        | nil => exact absurd hq hp
        | cons => rfl
    have ai := apart_used (hrow inner fun p hp => Nat.le_trans (hm p hp) hi)
    have am := apart_used (hrow most fun p hp => by have := flat_mem hp; lia)
    have hus := used_sums (rows_nonneg (gs := gs) (N := N) hc)
    refine ⟨?_, ?_, ?_, ?_, ?_⟩
    · have h1 := flat_len hm
      have h2 := Nat.mul_le_mul ho hi
      rw [← Nat.pow_add, Nat.add_comm outer] at h2
      lia
    · rw [ai]
      refine opt_lo ?_
      rw [part_all hc]
      refine (two_rounds (fun p hp => ?_) ?_).perm hperm
      · have := opt_hi (cs := p) (L := inner) (by rw [used_part hp]; exact Nat.le_trans (hm p hp) hi)
        rwa [used_part hp] at this
      · have := opt_hi (cs := (rowsF cs gs N).map List.sum) (L := outer) (by rw [hus, length_map]; exact ho)
        rwa [hus] at this
    · have hinv := inv_start (cs := cs) (by lia) fun c h => Int.le_of_lt (hc c h)
      have h1 := saved (L := most) (o := sortI cs) (rowsF cs gs N) [] (totI cs (lsF cs most)) (hinv.perm (by rw [append_nil]; exact hperm.symm)) (hlaw.one_hi.perm (by rw [append_nil]; exact hperm.symm))
      rw [append_nil] at h1
      have h2 := hlaw.top_lo _ h1
      rw [savF_sum]; lia
    · intro h1
      rw [am]
      exact apart_room (mn := minI) hlaw.ne h1 (fun p hp x hx => minI_le hx) hlaw.t_lo (hlaw.one_hi.perm hperm.symm)
    · intro hroom
      have hle := hlaw.le hroom
      have hov := hlaw.over
      have hne : cs ≠ [] := fun e => by rw [e] at hn3; simp at hn3
      have hW := sum_pos' hc hne
      rw [am]
      refine ⟨⟨hle, ?_⟩, fun hs => ?_, fun hs => ?_⟩
      · unfold overF
        split
        · lia
        next h1 =>
          match hU : usedF (rowsF cs gs N), h1 with
          | [], _ => rw [hU] at hlen; simp at hlen; lia
          | [p], _ =>
            rw [hU] at hperm hlen hlaw
            have hpp : p.Perm cs := by simpa using hperm
            have hpl : 1 < p.length := by rw [hpp.length_eq]; lia
            have h3 := hlaw.t_lo p (mem_singleton.mpr rfl) _ (hlaw.one_hi.perm hpp.symm)
            have h4 := hlaw.top_lo 0 ⟨[(p.sum, 0)], by exact .refl _, ⟨fun x hx => by rw [mem_singleton.mp hx]; exact Nat.zero_le _, by simp [kr]⟩, by simp [cost]⟩
            have h5 : p.sum = cs.sum := permSumI hpp
            have h6 : ([p].filter fun p => decide (1 < p.length)) = [p] := by simp [hpl]
            rw [h6]
            simp only [map_cons, map_nil, sum_cons, sum_nil] at h3 ⊢
            lia
          | p :: q :: P, h1 => simp at h1
      · have := shares_even (by lia) hl hc hg hmost hs
        lia
      · have hd := halvF_iff.mp hs
        rw [hlaw.halves hroom hne hmost9 fun c h => hd c h (hc c h), halvF_iff]
        have hmem : ∀ s, s ∈ (usedF (rowsF cs gs N)).map List.sum ↔ s ∈ (rowsF cs gs N).map List.sum ∧ 0 < s := fun s => by
          rw [← hus]; unfold partF; rw [mem_filter]; simp
        constructor
        · intro h s hs1 hs2
          obtain ⟨p, hp, rfl⟩ := mem_map.mp ((hmem s).mpr ⟨hs1, hs2⟩)
          exact h p hp
        · intro h p hp
          have := (hmem p.sum).mp (mem_map_of_mem hp)
          exact h _ this.1 this.2
end Mine
end

section
open PySem PySem.W PyProof.Rows PySem.Calls
namespace Mine

/-- plain data -/
inductive D where
  | bool (b : Bool)
  | int (i : Int)
  | list (xs : List D)
  | tup (xs : List D)
  | non

/-- what a name holds: plain data, or a list that may still change -/
inductive Val where
  | d (x : D)
  | own (xs : List D)
abbrev VM := List (Str × Val)
/-- what an expression gives: plain data, or a list made just now -/
inductive R where
  | d (x : D)
  | new (xs : List D)
def R.frz : R → D
  | .d x => x
  | .new xs => .list xs
def R.val : R → Val
  | .d x => .d x
  | .new xs => .own xs

/-- the built-in names that the text calls -/
abbrev bltN : List Str := ["len", "abs", "max", "min", "sum", "sorted", "list", "int", "range", "reversed", "enumerate", "zip"]
set_option genInjectivity false in
/-- the global facts -/
structure GC where
  prog : Program
  w : World
  hT : Heap
  mg : Str → Option Value
  mb : Str → Option Value
  recs : List DefRec
  g : hT.Ns mainGlobals mg
  b : hT.Ns builtinsNs mb
  nolim : hT.NoLimit
  mbv : ∀ x ∈ bltN, mb x = bootBuiltins x
  fn : ∀ d ∈ recs, ∃ a o pm code doc, mg d.name = some (.ref a) ∧ hT.get? a = some o ∧ o.data = .func (docDef d.name d.params d.body d.scope pm code doc) ∧ hT.CodeRec code d.name
  free : ∀ x ∈ bltN, mg x = none

abbrev Zm := Addr → Option Obj
def ZSeq (cls : String) (Z : Zm) (a : Addr) (vs : List Value) : Prop := ∃ o n, Z a = some o ∧ o.cls = .type cls ∧ o.data = .seq vs.toArray n

mutual
def Rep (Z : Zm) : D → Value → Prop
  | .bool b, v => v = .bool b
  | .int i, v => ∃ t, v = .int i t
  | .list xs, v => ∃ a vs, v = .ref a ∧ ZSeq "list" Z a vs ∧ Reps Z xs vs
  | .tup xs, v => ∃ a vs, v = .ref a ∧ ZSeq "tuple" Z a vs ∧ Reps Z xs vs
  | .non, v => v = .none
def Reps (Z : Zm) : List D → List Value → Prop
  | [], vs => vs = []
  | x :: xs, vs => ∃ v r, vs = v :: r ∧ Rep Z x v ∧ Reps Z xs r
end

def Zm.le (Z Z' : Zm) : Prop := ∀ a o, Z a = some o → Z' a = some o
theorem Zm.le.refl (Z : Zm) : Z.le Z := fun _ _ e => e
theorem Zm.le.trans {Z Z' Z'' : Zm} (x : Z.le Z') (y : Z'.le Z'') : Z.le Z'' := fun a o e => y a o (x a o e)
theorem ZSeq.mono {c : String} {Z Z' : Zm} {a : Addr} {vs : List Value} (h : ZSeq c Z a vs) (k : Z.le Z') : ZSeq c Z' a vs := let ⟨o, n, e, r⟩ := h; ⟨o, n, k _ _ e, r⟩

mutual
theorem Rep.mono {Z Z' : Zm} (k : Z.le Z') : ∀ {d : D} {v : Value}, Rep Z d v → Rep Z' d v
  | .bool _, _, h => h
  | .int _, _, h => h
  | .list _, _, ⟨a, vs, e, z, r⟩ => ⟨a, vs, e, z.mono k, Reps.mono k r⟩
  | .tup _, _, ⟨a, vs, e, z, r⟩ => ⟨a, vs, e, z.mono k, Reps.mono k r⟩
  | .non, _, h => h
theorem Reps.mono {Z Z' : Zm} (k : Z.le Z') : ∀ {xs : List D} {vs : List Value}, Reps Z xs vs → Reps Z' xs vs
  | [], _, h => h
  | _ :: _, _, ⟨v, r, e, h, hs⟩ => ⟨v, r, e, Rep.mono k h, Reps.mono k hs⟩
end
theorem Reps.len {Z : Zm} : ∀ {xs : List D} {vs : List Value}, Reps Z xs vs → vs.length = xs.length
  | [], _, h => by rw [show _ = [] from h]; rfl
  | _ :: _, _, ⟨v, r, e, _, hs⟩ => by rw [e, List.length_cons, List.length_cons, hs.len]
theorem Reps.get {Z : Zm} : ∀ {xs : List D} {vs : List Value}, Reps Z xs vs → ∀ (i : Nat) (d : D), xs[i]? = some d → ∃ v, vs[i]? = some v ∧ Rep Z d v
  | [], _, _, i, d, e => by simp at e
  | x :: xs, _, ⟨v, r, e, h, hs⟩, i, d, ed => by
    subst e
    cases i with
    | zero => simp at ed; subst ed; exact ⟨v, rfl, h⟩
    | succ i => simpa using hs.get i d (by simpa using ed)
theorem Reps.append {Z : Zm} : ∀ {xs ys : List D} {vs ws : List Value}, Reps Z xs vs → Reps Z ys ws → Reps Z (xs ++ ys) (vs ++ ws)
  | [], _, _, _, h, k => by rw [show _ = [] from h]; exact k
  | _ :: _, _, _, _, ⟨v, r, e, h, hs⟩, k => by subst e; exact ⟨v, _, rfl, h, hs.append k⟩
theorem Reps.one {Z : Zm} {x : D} {v : Value} (h : Rep Z x v) : Reps Z [x] [v] := ⟨v, [], rfl, h, rfl⟩
theorem Reps.nil {Z : Zm} : Reps Z [] [] := rfl
theorem Reps.cons {Z : Zm} {x : D} {v : Value} {xs : List D} {vs : List Value} (h : Rep Z x v) (k : Reps Z xs vs) : Reps Z (x :: xs) (v :: vs) := ⟨v, vs, rfl, h, k⟩
theorem Reps.set {Z : Zm} : ∀ {xs : List D} {vs : List Value}, Reps Z xs vs → ∀ i {d v}, Rep Z d v → Reps Z (xs.set i d) (vs.set i v)
  | [], _, h, _, _, _, _ => by rw [show _ = [] from h]; exact rfl
  | _ :: _, _, ⟨v, r, e, h, hs⟩, 0, _, _, k => by subst e; exact ⟨_, _, rfl, k, hs⟩
  | _ :: _, _, ⟨v, r, e, h, hs⟩, i + 1, _, _, k => by subst e; exact ⟨_, _, rfl, h, hs.set i k⟩
theorem Reps.take {Z : Zm} : ∀ {xs : List D} {vs : List Value}, Reps Z xs vs → ∀ i, Reps Z (xs.take i) (vs.take i)
  | [], _, h, i => by rw [show _ = [] from h]; simp; exact rfl
  | _ :: _, _, ⟨v, r, e, h, hs⟩, 0 => by subst e; exact rfl
  | _ :: _, _, ⟨v, r, e, h, hs⟩, i + 1 => by subst e; exact ⟨_, _, rfl, h, hs.take i⟩
theorem Reps.drop {Z : Zm} : ∀ {xs : List D} {vs : List Value}, Reps Z xs vs → ∀ i, Reps Z (xs.drop i) (vs.drop i)
  | [], _, h, i => by rw [show _ = [] from h]; simp; exact rfl
  | _ :: _, _, ⟨v, r, e, h, hs⟩, 0 => by subst e; exact ⟨_, _, rfl, h, hs⟩
  | _ :: _, _, ⟨v, r, e, h, hs⟩, i + 1 => by subst e; exact hs.drop i
/-- a list in the heap that is not frozen -/
abbrev Lo (vs : List Value) (n : Nat) : Obj := { cls := .type "list", data := .seq vs.toArray n }
def Own (Z : Zm) (h : Heap) (a : Addr) (ds : List D) : Prop := Z a = none ∧ ∃ vs n, h.get? a = some (Lo vs n) ∧ Reps Z ds vs

structure EnvOk (en : Env) (sc : Scope) : Prop where
  scope : en.scope = sc
  globals : en.globals = mainGlobals
  builtins : en.builtins = builtinsNs
  kind : sc.kind = .function
  cells : ∀ x, sc.names.lookup x = some .cell ∨ sc.names.lookup x = some .free → ∃ c, en.cells.lookup x = some c

def Loads (en : Env) (h : Heap) (x : Str) (v : Value) : Prop :=
  (en.scope.names.lookup x = some .local ∧ ∃ m, h.Ns en.locals m ∧ m x = some v) ∨
  ((en.scope.names.lookup x = some .cell ∨ en.scope.names.lookup x = some .free) ∧ ∃ c, en.cells.lookup x = some c ∧ h.IsCell c (some v))

structure St (G : GC) (en : Env) (V : VM) (Z : Zm) (al : Str → Addr) (h : Heap) : Prop where
  base : ∀ a o, G.hT.get? a = some o → Z a = some o
  fz : ∀ a o, Z a = some o → h.get? a = some o
  ns : ∃ m, h.Ns en.locals m
  zl : Z en.locals = none
  cell : ∀ x c, en.cells.lookup x = some c → ∃ v, h.IsCell c v
  zc : ∀ x c, en.cells.lookup x = some c → Z c = none
  cinj : ∀ x y c, en.cells.lookup x = some c → en.cells.lookup y = some c → x = y
  val : ∀ x d, V.lookup x = some (.d d) → ∃ v, Loads en h x v ∧ Rep Z d v
  own : ∀ x ds, V.lookup x = some (.own ds) → Loads en h x (.ref (al x)) ∧ Own Z h (al x) ds
  inj : ∀ x y ds es, V.lookup x = some (.own ds) → V.lookup y = some (.own es) → al x = al y → x = y

/-- the addresses that an expression may write -/
def WE (V : VM) (al : Str → Addr) (a : Addr) : Prop := ∃ x ds, V.lookup x = some (.own ds) ∧ a = al x
structure KE (en : Env) (V : VM) (al : Str → Addr) (h h' : Heap) : Prop where
  obj : ∀ a o, h.get? a = some o → ¬ WE V al a → a ≠ en.locals → h'.get? a = some o
  ns : ∀ m, h.Ns en.locals m → h'.Ns en.locals m
  dom : ∀ a o, h.get? a = some o → ∃ o', h'.get? a = some o'
def SubOwn (V V' : VM) : Prop := ∀ x ds, V'.lookup x = some (.own ds) → ∃ es, V.lookup x = some (.own es)
theorem SubOwn.refl (V : VM) : SubOwn V V := fun _ ds e => ⟨ds, e⟩
theorem SubOwn.trans {V V' V'' : VM} (x : SubOwn V V') (y : SubOwn V' V'') : SubOwn V V'' := fun n ds e => let ⟨es, e'⟩ := y n ds e; x n es e'
theorem SubOwn.we {V V' : VM} {al : Str → Addr} (x : SubOwn V V') {a : Addr} (h : WE V' al a) : WE V al a := let ⟨n, ds, e, ea⟩ := h; let ⟨es, e'⟩ := x n ds e; ⟨n, es, e', ea⟩
theorem KE.refl (en : Env) (V : VM) (al : Str → Addr) (h : Heap) : KE en V al h h := ⟨fun _ _ e _ _ => e, fun _ e => e, fun _ o e => ⟨o, e⟩⟩
theorem KE.trans {en : Env} {V V' : VM} {al : Str → Addr} {h h' h'' : Heap} (x : KE en V al h h') (so : SubOwn V V') (y : KE en V' al h' h'') : KE en V al h h'' :=
  ⟨fun a o e nw nl => y.obj a o (x.obj a o e nw nl) (fun c => nw (so.we c)) nl, fun m e => y.ns m (x.ns m e), fun a o e => let ⟨o', e'⟩ := x.dom a o e; y.dom a o' e'⟩
theorem KE.of_keeps {en : Env} {V : VM} {al : Str → Addr} {h h' : Heap} (k : ∀ a o, h.get? a = some o → h'.get? a = some o) : KE en V al h h' := ⟨fun a o e _ _ => k a o e, fun _ e => e.keeps k, fun a o e => ⟨o, k a o e⟩⟩

/-- the world outside and the generators are as before -/
def Kp (s s' : Shared) : Prop := s'.os = s.os ∧ s'.gens = s.gens
theorem Kp.refl (s : Shared) : Kp s s := ⟨rfl, rfl⟩
theorem Kp.trans {s s' s'' : Shared} (x : Kp s s') (y : Kp s' s'') : Kp s s'' := ⟨y.1.trans x.1, y.2.trans x.2⟩
/-- what an evaluation may do to the heap and to the frozen part -/
structure Go (en : Env) (V : VM) (Z : Zm) (al : Str → Addr) (s : Shared) (V' : VM) (Z' : Zm) (s' : Shared) : Prop where
  z : Z.le Z'
  zn : ∀ a o, Z' a = some o → Z a = some o ∨ WE V al a ∨ s.heap.get? a = none
  ke : KE en V al s.heap s'.heap
  so : SubOwn V V'
  kp : Kp s s'
theorem KE.none {en : Env} {V : VM} {al : Str → Addr} {h h' : Heap} (k : KE en V al h h') {a : Addr} (e : h'.get? a = none) : h.get? a = none := by
  cases e' : h.get? a with
  | none => rfl
  | some o => obtain ⟨o', e''⟩ := k.dom a o e'; rw [e] at e''; cases e''
theorem Go.refl (en : Env) (V : VM) (Z : Zm) (al : Str → Addr) (s : Shared) : Go en V Z al s V Z s := ⟨.refl Z, fun _ _ e => .inl e, .refl .., .refl V, .refl s⟩
theorem Go.trans {en : Env} {V V' V'' : VM} {Z Z' Z'' : Zm} {al : Str → Addr} {s s' s'' : Shared} (x : Go en V Z al s V' Z' s') (y : Go en V' Z' al s' V'' Z'' s'') : Go en V Z al s V'' Z'' s'' :=
  ⟨x.z.trans y.z, fun a o e => (y.zn a o e).elim (x.zn a o) fun e => e.elim (fun w => .inr (.inl (x.so.we w))) fun e => .inr (.inr (x.ke.none e)), x.ke.trans x.so y.ke, x.so.trans y.so, x.kp.trans y.kp⟩
theorem Go.of_keeps {en : Env} {V : VM} {Z : Zm} {al : Str → Addr} {s s' : Shared} (k : ∀ a o, s.heap.get? a = some o → s'.heap.get? a = some o) (kp : Kp s s' := by exact ⟨rfl, rfl⟩) : Go en V Z al s V Z s' := ⟨.refl Z, fun _ _ e => .inl e, .of_keeps k, .refl V, kp⟩

/-- the value v of heap h' bears r; if r is a new list, it was not there in h -/
def RRep (Z : Zm) (h h' : Heap) (v : Value) : R → Prop
  | .d d => Rep Z d v
  | .new ds => ∃ a, v = .ref a ∧ h.get? a = none ∧ Own Z h' a ds

def Rm (A : Around) (n : Nat) : Prop := A.handled = none ∧ A.depth + 2 * n + 20 < recursionLimit ∧ A.units + 20 * n + 200 < cLine
theorem Rm.mono {A : Around} {n m : Nat} (h : Rm A n) (k : m ≤ n) : Rm A m := ⟨h.1, by have := h.2.1; lia, by have := h.2.2; lia⟩

def EP (G : GC) (en : Env) (V : VM) (Z : Zm) (al : Str → Addr) (s : Shared) (Q : R → VM → Prop) (v : Value) (s' : Shared) : Prop :=
  ∃ Z' V' r, Go en V Z al s V' Z' s' ∧ St G en V' Z' al s'.heap ∧ RRep Z' s.heap s'.heap v r ∧ Q r V'
def DP (G : GC) (en : Env) (V : VM) (Z : Zm) (al : Str → Addr) (s : Shared) (Q : D → VM → Prop) (v : Value) (s' : Shared) : Prop :=
  ∃ Z' V' d, Go en V Z al s V' Z' s' ∧ St G en V' Z' al s'.heap ∧ Rep Z' d v ∧ Q d V'
/-- a condition's end -/
def BP (G : GC) (en : Env) (V : VM) (Z : Zm) (al : Str → Addr) (s : Shared) (Q : Bool → VM → Prop) (b : Bool) (s' : Shared) : Prop :=
  ∃ Z' V', Go en V Z al s V' Z' s' ∧ St G en V' Z' al s'.heap ∧ Q b V'

def EvQ (G : GC) (n : Nat) (sc : Scope) (e : Expr) (V : VM) (Q : R → VM → Prop) : Prop :=
  ∀ en A E s Z al, EnvOk en sc → Rm A n → St G en V Z al s.heap → wpAny (model G.prog G.w) A (eval e en) (EP G en V Z al s Q) E s
def EvD (G : GC) (n : Nat) (sc : Scope) (e : Expr) (V : VM) (Q : D → VM → Prop) : Prop :=
  ∀ en A E s Z al, EnvOk en sc → Rm A n → St G en V Z al s.heap → wpAny (model G.prog G.w) A (eval e en) (DP G en V Z al s Q) E s
def CoQ (G : GC) (n : Nat) (sc : Scope) (e : Expr) (V : VM) (Q : Bool → VM → Prop) : Prop :=
  ∀ en A E s Z al, EnvOk en sc → Rm A n → St G en V Z al s.heap → wpAny (model G.prog G.w) A (isTrue e en (eval e en)) (BP G en V Z al s Q) E s

section
variable {G : GC} {en : Env} {V V' : VM} {Z Z' : Zm} {al : Str → Addr} {h h' : Heap} {s s' : Shared}

theorem Loads.ke (x : St G en V Z al h) (k : ∀ a o, h.get? a = some o → ¬ WE V al a → a ≠ en.locals → h'.get? a = some o) (kn : ∀ m, h.Ns en.locals m → h'.Ns en.locals m) {y : Str} {v : Value} (l : Loads en h y v) : Loads en h' y v := by
  rcases l with ⟨e, m, hn, hm⟩ | ⟨e, c, hc, hv⟩
  · exact .inl ⟨e, m, kn m hn, hm⟩
  · obtain ⟨o, ho, hd⟩ := hv
    refine .inr ⟨e, c, hc, o, k c o ho (fun ⟨z, ds, ez, ec⟩ => ?_) (fun ec => ?_), hd⟩
    · obtain ⟨_, _, vs, n', ho', _⟩ := x.own z ds ez
      rw [← ec, ho] at ho'; cases ho'; cases hd
    · obtain ⟨m, o', es, ep, ho', hd', _⟩ := x.ns
      rw [← ec, ho] at ho'; cases ho'; rw [hd] at hd'; cases hd'
/-- the state holds on where only new things came -/
theorem St.ke (x : St G en V Z al h) (k : ∀ a o, h.get? a = some o → a ≠ en.locals → h'.get? a = some o) (kn : ∀ m, h.Ns en.locals m → h'.Ns en.locals m) : St G en V Z al h' where
  base := x.base
  fz := fun a o e => k a o (x.fz a o e) (fun c => by rw [c, x.zl] at e; cases e)
  ns := let ⟨m, e⟩ := x.ns; ⟨m, kn m e⟩
  zl := x.zl
  cell := fun y c e => by
    obtain ⟨v, o, ho, hd⟩ := x.cell y c e
    refine ⟨v, o, k c o ho (fun ec => ?_), hd⟩
    obtain ⟨m, o', es, ep, ho', hd', _⟩ := x.ns
    rw [← ec, ho] at ho'; cases ho'; rw [hd] at hd'; cases hd'
  zc := x.zc
  cinj := x.cinj
  val := fun y d e => let ⟨v, l, r⟩ := x.val y d e; ⟨v, l.ke x (fun a o e _ nl => k a o e nl) kn, r⟩
  own := fun y ds e => by
    obtain ⟨l, z, vs, n', ho, r⟩ := x.own y ds e
    refine ⟨l.ke x (fun a o e _ nl => k a o e nl) kn, z, vs, n', k _ _ ho (fun ec => ?_), r⟩
    obtain ⟨m, o', es, ep, ho', hd', _⟩ := x.ns
    rw [← ec, ho] at ho'; cases ho'; cases hd'
  inj := x.inj
theorem St.keeps (x : St G en V Z al h) (k : ∀ a o, h.get? a = some o → h'.get? a = some o) : St G en V Z al h' :=
  x.ke (fun a o e _ => k a o e) (fun _ e => e.keeps k)
/-- the frozen part may grow by things in the heap that nothing of the frame's may write -/
theorem St.grow (x : St G en V Z al h) (k : Z.le Z') (hz : ∀ a o, Z' a = some o → h.get? a = some o) (hl : Z' en.locals = none)
    (hc : ∀ y c, en.cells.lookup y = some c → Z' c = none) (ho : ∀ y ds, V.lookup y = some (.own ds) → Z' (al y) = none) : St G en V Z' al h where
  base := fun a o e => k a o (x.base a o e)
  fz := hz
  ns := x.ns
  zl := hl
  cell := x.cell
  zc := hc
  cinj := x.cinj
  val := fun y d e => let ⟨v, l, r⟩ := x.val y d e; ⟨v, l, r.mono k⟩
  own := fun y ds e => let ⟨l, _, vs, m, hv, r⟩ := x.own y ds e; ⟨l, ho y ds e, vs, m, hv, r.mono k⟩
  inj := x.inj
def zput (Z : Zm) (a : Addr) (o : Obj) : Zm := fun b => if b = a then some o else Z b
theorem zput_le {a : Addr} {o : Obj} (e : Z a = none) : Z.le (zput Z a o) := fun b o' eb => by
  unfold zput
  by_cases hb : b = a
  · rw [hb, e] at eb; cases eb
  · rw [if_neg hb]; exact eb
theorem zput_self {a : Addr} {o : Obj} : zput Z a o a = some o := by simp [zput]
theorem zput_ne {a b : Addr} {o : Obj} (e : b ≠ a) : zput Z a o b = Z b := by simp [zput, e]
/-- a list or tuple joins the frozen part -/
theorem St.freeze (x : St G en V Z al h) {a : Addr} {o : Obj} {vs : Array Value} {n : Nat} (ho : h.get? a = some o) (hd : o.data = .seq vs n) (hz : Z a = none)
    (hown : ∀ y ds, V.lookup y = some (.own ds) → al y ≠ a) : St G en V (zput Z a o) al h := by
  refine x.grow (zput_le hz) (fun b o' e => ?_) ?_ ?_ ?_
  · unfold zput at e
    by_cases hb : b = a
    · rw [if_pos hb] at e; cases e; rw [hb]; exact ho
    · rw [if_neg hb] at e; exact x.fz b o' e
  · rw [zput_ne]
    · exact x.zl
    · intro ec
      obtain ⟨m, o', es, ep, ho', hd', _⟩ := x.ns
      rw [ec, ho] at ho'; cases ho'; rw [hd] at hd'; cases hd'
  · intro y c e
    rw [zput_ne]
    · exact x.zc y c e
    · intro ec
      obtain ⟨v, o', ho', hd'⟩ := x.cell y c e
      rw [ec, ho] at ho'; cases ho'; rw [hd] at hd'; cases hd'
  · intro y ds e
    rw [zput_ne (hown y ds e)]
    exact (x.own y ds e).2.1
theorem Own.zseq {a : Addr} {ds : List D} (w : Own Z h a ds) : ∃ o vs n, h.get? a = some o ∧ o.cls = .type "list" ∧ o.data = .seq (vs : List Value).toArray n ∧ Reps Z ds vs :=
  let ⟨_, vs, n, ho, r⟩ := w; ⟨_, vs, n, ho, rfl, rfl, r⟩
theorem zput_new {a b : Addr} {o o' : Obj} (e : zput Z a o b = some o') : Z b = some o' ∨ b = a := by
  unfold zput at e
  by_cases hb : b = a
  · exact .inr hb
  · rw [if_neg hb] at e; exact .inl e
theorem EP.frz {Q : D → VM → Prop} {v : Value} (x₀ : St G en V Z al s.heap) (h : EP G en V Z al s (fun r V' => Q r.frz V') v s') : DP G en V Z al s Q v s' := by
  obtain ⟨Z', V', r, g, st, rr, q⟩ := h
  cases r with
  | d d => exact ⟨Z', V', d, g, st, rr, q⟩
  | new ds =>
    obtain ⟨a, rfl, hn, w⟩ := rr
    obtain ⟨o, vs, n, ho, hc, hd, r⟩ := w.zseq
    refine ⟨zput Z' a o, V', .list ds, ⟨g.z.trans (zput_le w.1), fun b o' e => ?_, g.ke, g.so, g.kp⟩, st.freeze ho hd w.1 (fun y es e ea => ?_), ⟨a, vs, rfl, ⟨o, n, zput_self, hc, hd⟩, r.mono (zput_le w.1)⟩, q⟩
    · rcases zput_new e with e | e
      · exact g.zn b o' e
      · exact .inr (.inr (e ▸ hn))
    · obtain ⟨es', e'⟩ := g.so y es e
      obtain ⟨_, _, vs', n', ho', _⟩ := x₀.own y es' e'
      rw [ea, hn] at ho'; cases ho'
end
end Mine
end

section
open PySem PySem.W PyProof.Rows PySem.Calls
namespace Mine

def setV : VM → Str → Val → VM
  | [], x, v => [(x, v)]
  | (y, u) :: r, x, v => if x = y then (x, v) :: r else (y, u) :: setV r x v
theorem lookup_setV : ∀ (V : VM) (x : Str) (v : Val) (y : Str), (setV V x v).lookup y = if y = x then some v else V.lookup y
  | [], x, v, y => by
    unfold setV
    by_cases h : y = x
    · subst h; simp
    · have : (y == x) = false := beq_eq_false_iff_ne.mpr h
      simp [List.lookup_cons, this, h]
  | (z, u) :: r, x, v, y => by
    unfold setV
    by_cases hz : x = z
    · subst hz
      rw [if_pos rfl]
      by_cases h : y = x
      · subst h; simp
      · have : (y == x) = false := beq_eq_false_iff_ne.mpr h
        simp [List.lookup_cons, this, h]
    · rw [if_neg hz, List.lookup_cons, List.lookup_cons, lookup_setV r x v y]
      by_cases hy : y = z
      · subst hy
        have : ¬ y = x := fun e => hz e.symm
        simp [this]
      · have : (y == z) = false := beq_eq_false_iff_ne.mpr hy
        simp [this]

section
variable {G : GC} {n : Nat} {sc : Scope} {en : Env} {V V' : VM} {Z Z' : Zm} {al : Str → Addr} {h h' : Heap} {s s' s₁ : Shared} {A : Around} {E : Value → Shared → Prop}

theorem EP.pre {Q : R → VM → Prop} {v : Value} (g : Go en V Z al s V' Z' s₁) (h : EP G en V' Z' al s₁ Q v s') : EP G en V Z al s Q v s' := by
  obtain ⟨Z'', V'', r, g', st, rr, q⟩ := h
  refine ⟨Z'', V'', r, g.trans g', st, ?_, q⟩
  cases r with
  | d d => exact rr
  | new ds => obtain ⟨a, rfl, hn, w⟩ := rr; exact ⟨a, rfl, g.ke.none hn, w⟩
theorem BP.pre {Q : Bool → VM → Prop} {b : Bool} (g : Go en V Z al s V' Z' s₁) (h : BP G en V' Z' al s₁ Q b s') : BP G en V Z al s Q b s' := by
  obtain ⟨Z'', V'', g', st, q⟩ := h
  exact ⟨Z'', V'', g.trans g', st, q⟩
theorem EvD.use {e : Expr} {Q : D → VM → Prop} (hq : EvD G n sc e V Q) (ek : EnvOk en sc) (rm : Rm A n) (x : St G en V Z al s.heap) {P : Value → Shared → Prop}
    (k : ∀ v s₁ Z₁ V₁ d, Go en V Z al s V₁ Z₁ s₁ → St G en V₁ Z₁ al s₁.heap → Rep Z₁ d v → Q d V₁ → P v s₁) : wpAny (model G.prog G.w) A (eval e en) P E s :=
  wpAny_mono (hq en A E s Z al ek rm x) (fun v s₁ hq2 => by obtain ⟨Z₁, V₁, d, a, b, f, g⟩ := hq2; exact k v s₁ Z₁ V₁ d a b f g) fun _ _ e => e
theorem CoQ.use {e : Expr} {Q : Bool → VM → Prop} (hq : CoQ G n sc e V Q) (ek : EnvOk en sc) (rm : Rm A n) (x : St G en V Z al s.heap) {P : Bool → Shared → Prop}
    (k : ∀ v s₁ Z₁ V₁, Go en V Z al s V₁ Z₁ s₁ → St G en V₁ Z₁ al s₁.heap → Q v V₁ → P v s₁) : wpAny (model G.prog G.w) A (isTrue e en (eval e en)) P E s :=
  wpAny_mono (hq en A E s Z al ek rm x) (fun v s₁ hq1 => by obtain ⟨Z₁, V₁, a, b, g⟩ := hq1; exact k v s₁ Z₁ V₁ a b g) fun _ _ e => e
theorem EvQ.useE {e : Expr} {Q : R → VM → Prop} (hq : EvQ G n sc e V Q) (ek : EnvOk en sc) (rm : Rm A n) (x : St G en V Z al s₁.heap) (g : Go en V' Z' al s V Z s₁) :
    wpAny (model G.prog G.w) A (eval e en) (EP G en V' Z' al s Q) E s₁ :=
  wpAny_mono (hq en A E s₁ Z al ek rm x) (fun _ _ h => h.pre g) fun _ _ e => e
theorem EvQ.frz {e : Expr} {Q : D → VM → Prop} (h : EvQ G n sc e V (fun r V' => Q r.frz V')) : EvD G n sc e V Q :=
  fun en A E s Z al ek rm x => wpAny_mono (h en A E s Z al ek rm x) (fun _ _ h => h.frz x) fun _ _ e => e

theorem St.zsize (x : St G en V Z al h) : Z h.objs.size = none := by
  cases e : Z h.objs.size with
  | none => rfl
  | some o => exact absurd (Heap.lt_size (x.fz _ _ e)) (Nat.lt_irrefl _)
theorem get_size (h : Heap) : h.get? h.objs.size = none := by
  cases e : h.get? h.objs.size with
  | none => rfl
  | some o => exact absurd (Heap.lt_size e) (Nat.lt_irrefl _)

theorem EP.val {Q : R → VM → Prop} {v : Value} {d : D} {tk : Nat} (x : St G en V Z al s.heap) (r : Rep Z d v) (q : Q (.d d) V) : EP G en V Z al s Q v { s with toks := tk } :=
  ⟨Z, V, .d d, .of_keeps fun _ _ e => e, x, r, q⟩
theorem EP.int {Q : R → VM → Prop} {i : Int} {t : Tok} {tk : Nat} (x : St G en V Z al s.heap) (q : Q (.d (.int i)) V) : EP G en V Z al s Q (.int i t) { s with toks := tk } :=
  EP.val x (show Rep Z (.int i) (.int i t) from ⟨t, rfl⟩) q
theorem EP.bool {Q : R → VM → Prop} {b : Bool} {tk : Nat} (x : St G en V Z al s.heap) (q : Q (.d (.bool b)) V) : EP G en V Z al s Q (.bool b) { s with toks := tk } :=
  EP.val x (show Rep Z (.bool b) (.bool b) from rfl) q
/-- a value, behind new things -/
theorem EP.valK {Q : R → VM → Prop} {v : Value} {d : D} {tk : Nat} (x : St G en V Z al s.heap) (k : ∀ a o, s.heap.get? a = some o → h'.get? a = some o) (r : Rep Z d v) (q : Q (.d d) V) : EP G en V Z al s Q v { s with heap := h', toks := tk } :=
  ⟨Z, V, .d d, .of_keeps k, x.keeps k, r, q⟩
/-- a new list, behind new things -/
theorem EP.newK {Q : R → VM → Prop} {a : Addr} {vs : List Value} {m : Nat} {ds : List D} {tk : Nat} (x : St G en V Z al s.heap) (k : ∀ a o, s.heap.get? a = some o → h'.get? a = some o)
    (hn : s.heap.get? a = none) (ho : h'.get? a = some (Lo vs m)) (r : Reps Z ds vs) (q : Q (.new ds) V) : EP G en V Z al s Q (.ref a) { s with heap := h', toks := tk } := by
  refine ⟨Z, V, .new ds, .of_keeps k, x.keeps k, ⟨a, rfl, hn, ?_, vs, m, ho, r⟩, q⟩
  cases e : Z a with
  | none => rfl
  | some o => have := x.fz _ _ e; rw [hn] at this; cases this
theorem EP.newPush {Q : R → VM → Prop} {vs : List Value} {m : Nat} {ds : List D} {tk : Nat} (x : St G en V Z al s.heap) (r : Reps Z ds vs) (q : Q (.new ds) V) :
    EP G en V Z al s Q (.ref s.heap.objs.size) { s with heap := s.heap.push { cls := .type "list", data := .seq vs.toArray m }, toks := tk } :=
  .newK x (fun _ _ e => Heap.get?_push_of_some _ e) (get_size _) (Heap.get?_push_size _ rfl) r q
theorem EP.tupPush {Q : R → VM → Prop} {vs : List Value} {m : Nat} {ds : List D} {tk : Nat} (x : St G en V Z al s.heap) (r : Reps Z ds vs) (q : Q (.d (.tup ds)) V) :
    EP G en V Z al s Q (.ref s.heap.objs.size) { s with heap := s.heap.push { cls := .type "tuple", data := .seq vs.toArray m }, toks := tk } := by
  have k : ∀ a o, s.heap.get? a = some o → (s.heap.push { cls := .type "tuple", data := .seq vs.toArray m }).get? a = some o := fun _ _ e => Heap.get?_push_of_some _ e
  have ho := Heap.get?_push_size s.heap (o := { cls := .type "tuple", data := .seq vs.toArray m }) rfl
  refine ⟨zput Z s.heap.objs.size _, V, .d (.tup ds), ⟨zput_le x.zsize, fun b o' e => (zput_new e).elim .inl fun e => .inr (.inr (e ▸ get_size _)), .of_keeps k, .refl V, rfl, rfl⟩, (x.keeps k).freeze ho rfl x.zsize (fun y es e ea => ?_), ⟨_, vs, rfl, ⟨_, _, zput_self, rfl, rfl⟩, r.mono (zput_le x.zsize)⟩, q⟩
  obtain ⟨_, _, vs', n', ho', _⟩ := x.own y es e
  rw [ea, get_size] at ho'; cases ho'

-- names
theorem load_var {x : Str} {v : Value} {Q : Value → Shared → Prop} (ek : EnvOk en sc) (l : Loads en s.heap x v) (q : Q v s) (hx : (x == ("__classdict__" : Str)) = false) : wpAny (model G.prog G.w) A (loadName en x) Q E s := by
  rcases l with ⟨e, m, hn, hm⟩ | ⟨e | e, c, hc, hv⟩
  · exact wpAny_loadName_local (by rw [ek.scope]; exact ek.kind) e hn hm q
  · exact wpAny_loadName_cell (by rw [ek.scope]; exact ek.kind) e hc hv q
  · exact wpAny_loadName_free (by rw [ek.scope]; exact ek.kind) e hc hv q hx
def okName (x : Str) : Bool := !(x == ("__debug__" : Str)) && !(x == ("__classdict__" : Str))
theorem okDebug {x : Str} (h : okName x = true) : (x == ("__debug__" : Str)) = false := by
  unfold okName at h; revert h; cases (x == ("__debug__" : Str)) <;> simp
theorem okCls {x : Str} (h : okName x = true) : (x == ("__classdict__" : Str)) = false := by
  unfold okName at h; revert h; cases (x == ("__classdict__" : Str)) <;> simp

theorem ev_name {x : Str} {p : Pos} {d : D} {Q : R → VM → Prop} (hv : V.lookup x = some (.d d)) (q : Q (.d d) V) (hn : okName x = true := by decide) : EvQ G n sc (.Name x p) V Q :=
  fun en A E s Z al ek rm st => by
    obtain ⟨v, l, r⟩ := st.val x d hv
    exact wpAny_Name (load_var ek l (.val st r q) (okCls hn)) (okDebug hn)

theorem St.frzV (x : St G en V Z al h) {y : Str} {ds : List D} (e : V.lookup y = some (.own ds)) :
    ∃ o, Z.le (zput Z (al y) o) ∧ St G en (setV V y (.d (.list ds))) (zput Z (al y) o) al h ∧ Rep (zput Z (al y) o) (.list ds) (.ref (al y)) := by
  obtain ⟨l, w⟩ := x.own y ds e
  obtain ⟨o, vs, n, ho, hc, hd, r⟩ := w.zseq
  have hz := w.1
  have rep : Rep (zput Z (al y) o) (.list ds) (.ref (al y)) := ⟨_, vs, rfl, ⟨o, n, zput_self, hc, hd⟩, r.mono (zput_le hz)⟩
  refine ⟨o, zput_le hz, ?_, rep⟩
  have hne : ∀ z es, (setV V y (.d (.list ds))).lookup z = some (.own es) → z ≠ y ∧ V.lookup z = some (.own es) := fun z es ez => by
    rw [lookup_setV] at ez
    by_cases hz : z = y
    · rw [if_pos hz] at ez; cases ez
    · rw [if_neg hz] at ez; exact ⟨hz, ez⟩
  have x' : St G en (setV V y (.d (.list ds))) Z al h → St G en (setV V y (.d (.list ds))) (zput Z (al y) o) al h := fun x' => x'.freeze ho hd hz fun z es ez ea => (hne z es ez).1 (x.inj z y es ds (hne z es ez).2 e ea)
  refine { base := fun a o' e' => zput_le hz a o' (x.base a o' e'), fz := ?_, ns := x.ns, zl := ?_, cell := x.cell, zc := ?_, cinj := x.cinj, val := ?_, own := ?_, inj := ?_ }
  · intro b o' eb
    unfold zput at eb
    by_cases hb : b = al y
    · rw [if_pos hb] at eb; cases eb; rw [hb]; exact ho
    · rw [if_neg hb] at eb; exact x.fz b o' eb
  · rw [zput_ne]
    · exact x.zl
    · intro ec
      obtain ⟨m, o', es, ep, ho', hd', _⟩ := x.ns
      rw [ec, ho] at ho'; cases ho'; rw [hd] at hd'; cases hd'
  · intro z c ez
    rw [zput_ne]
    · exact x.zc z c ez
    · intro ec
      obtain ⟨v, o', ho', hd'⟩ := x.cell z c ez
      rw [ec, ho] at ho'; cases ho'; rw [hd] at hd'; cases hd'
  · intro z d ez
    rw [lookup_setV] at ez
    by_cases hzy : z = y
    · rw [if_pos hzy] at ez; cases ez; rw [hzy]; exact ⟨_, l, rep⟩
    · rw [if_neg hzy] at ez
      obtain ⟨v, l', r'⟩ := x.val z d ez
      exact ⟨v, l', r'.mono (zput_le hz)⟩
  · intro z es ez
    obtain ⟨hzy, ez'⟩ := hne z es ez
    obtain ⟨l', w1, vs', n', w2, w3⟩ := x.own z es ez'
    exact ⟨l', by rw [zput_ne (fun ea => hzy (x.inj z y es ds ez' e ea))]; exact w1, vs', n', w2, w3.mono (zput_le hz)⟩
  · intro z z' es es' ez ez' ea
    exact x.inj z z' es es' (hne z es ez).2 (hne z' es' ez').2 ea

theorem subOwn_setD {y : Str} {d : D} : SubOwn V (setV V y (.d d)) := fun z es ez => by
  rw [lookup_setV] at ez
  by_cases hz : z = y
  · rw [if_pos hz] at ez; cases ez
  · rw [if_neg hz] at ez; exact ⟨es, ez⟩
theorem ev_name_frz {x : Str} {p : Pos} {ds : List D} {Q : R → VM → Prop} (hv : V.lookup x = some (.own ds)) (q : Q (.d (.list ds)) (setV V x (.d (.list ds)))) (hn : okName x = true := by decide) : EvQ G n sc (.Name x p) V Q :=
  fun en A E s Z al ek rm st => by
    obtain ⟨l, _⟩ := st.own x ds hv
    obtain ⟨o, z, st', r⟩ := st.frzV hv
    exact wpAny_Name (load_var ek l ⟨_, _, .d (.list ds), ⟨z, fun b o' e => (zput_new e).elim .inl fun e => .inr (.inl ⟨x, ds, hv, e⟩), .refl .., subOwn_setD, rfl, rfl⟩, st', r, q⟩ (okCls hn)) (okDebug hn)

theorem ev_int {i : Int} {k : Nat} {p : Pos} {Q : R → VM → Prop} (q : Q (.d (.int i)) V) : EvQ G n sc (.Constant (.int i) k p) V Q :=
  fun en A E s Z al ek rm st => wpAny_Constant_int (.int st q)
theorem ev_bool {b : Bool} {k : Nat} {p : Pos} {Q : R → VM → Prop} (q : Q (.d (.bool b)) V) : EvQ G n sc (.Constant (.bool b) k p) V Q :=
  fun en A E s Z al ek rm st => wpAny_Constant_bool (EP.bool (tk := s.toks) st q)

-- binary operators
def BinRes (op : Operator) (a b : D) (Q : R → Prop) : Prop := match op, a, b with
  | .Add, .int x, .int y => Q (.d (.int (x + y)))
  | .Sub, .int x, .int y => Q (.d (.int (x - y)))
  | .Mult, .int x, .int y => (x.natAbs < 2 ^ 60 ∨ y.natAbs < 2 ^ 60) ∧ Q (.d (.int (x * y)))
  | .FloorDiv, .int x, .int y => (0 < y ∧ y < 2 ^ 30) ∧ Q (.d (.int (x.fdiv y)))
  | .Mod, .int x, .int y => (y ≠ 0) ∧ Q (.d (.int (x.fmod y)))
  | .Pow, .int x, .int y => (0 ≤ y ∧ y ≤ 1000 ∧ 0 ≤ x ∧ x ≤ 1000) ∧ Q (.d (.int (x ^ y.toNat)))
  | .LShift, .int x, .int y => (0 ≤ y ∧ y ≤ 1000 ∧ x.natAbs < 2 ^ 64) ∧ Q (.d (.int (x * 2 ^ y.toNat)))
  | .Add, .list xs, .list ys => (xs.length + ys.length ≤ 2 ^ 20) ∧ Q (.new (xs ++ ys))
  | _, _, _ => False

theorem ZSeq.list {a : Addr} {vs : List Value} (z : ZSeq "list" Z a vs) (x : St G en V Z al h) : h.IsList a vs.toArray := let ⟨o, n, e, c, d⟩ := z; ⟨o, x.fz _ _ e, c, n, d⟩
theorem ZSeq.tuple {a : Addr} {vs : List Value} (z : ZSeq "tuple" Z a vs) (x : St G en V Z al h) : h.IsTuple a vs.toArray := let ⟨o, n, e, c, d⟩ := z; ⟨o, x.fz _ _ e, c, n, d⟩

theorem bits_small {a : Int} (h : a.natAbs < 2 ^ 64) : Builtin.Int.intBits a ≤ 64 := by
  unfold Builtin.Int.intBits
  split
  · lia
  · rename_i h0
    have h0' : a.natAbs ≠ 0 := by intro e; apply h0; simp; lia
    have := (Nat.log2_lt h0').mpr h
    lia
theorem pow_bits {x y : Int} (h0 : 0 ≤ x) (h1 : x ≤ 1000) (h2 : 0 ≤ y) (h3 : y ≤ 1000) : (Builtin.Int.intBits x : Int) * y ≤ 2 ^ 27 := by
  have hb : Builtin.Int.intBits x ≤ 64 := bits_small (Nat.lt_of_le_of_lt (m := 1000) (by lia) (by decide))
  have e1 : (Builtin.Int.intBits x : Int) * y ≤ 64 * y := Int.mul_le_mul_of_nonneg_right (by lia) h2
  have e2 : (64 : Int) * y ≤ 64 * 1000 := Int.mul_le_mul_of_nonneg_left h3 (by lia)
  have e3 : (64 : Int) * 1000 ≤ 2 ^ 27 := by decide
  lia
theorem bin_sound {op : Operator} {a b : D} {va vb : Value} {Q : R → VM → Prop} (x : St G en V Z al s.heap) (ra : Rep Z a va) (rb : Rep Z b vb) (q : BinRes op a b (fun r => Q r V)) :
    wpAny (model G.prog G.w) A (binaryOp op va vb) (EP G en V Z al s Q) E s := by
  cases op <;> (try exact False.elim q) <;> cases a <;> (try exact False.elim q) <;> cases b <;> (try exact False.elim q)
  case Add.int.int => obtain ⟨t, rfl⟩ := ra; obtain ⟨u, rfl⟩ := rb; exact PySem.P.add_int (.int x q)
  case Sub.int.int => obtain ⟨t, rfl⟩ := ra; obtain ⟨u, rfl⟩ := rb; exact PySem.P.sub_int (.int x q)
  case Mult.int.int =>
    obtain ⟨t, rfl⟩ := ra; obtain ⟨u, rfl⟩ := rb
    exact PySem.P.mul_int (.int x q.2) (q.1.elim (fun h => .of_left (bits_small (Nat.lt_of_lt_of_le h (by decide)))) fun h => .of_right (bits_small (Nat.lt_of_lt_of_le h (by decide))))
  case FloorDiv.int.int =>
    obtain ⟨t, rfl⟩ := ra; obtain ⟨u, rfl⟩ := rb
    obtain ⟨q1, q2⟩ := q
    exact floordiv_int (by lia) (.int x q2) (.inl (PyProof.noPylong_small (by lia)))
  case Mod.int.int => obtain ⟨t, rfl⟩ := ra; obtain ⟨u, rfl⟩ := rb; obtain ⟨q1, q2⟩ := q; exact mod_int' q1 (.int x q2)
  case Pow.int.int => obtain ⟨t, rfl⟩ := ra; obtain ⟨u, rfl⟩ := rb; obtain ⟨⟨q1, q3, q4, q5⟩, q2⟩ := q; exact pow_int q1 (pow_bits q4 q5 q1 q3) (.int x q2)
  case LShift.int.int => obtain ⟨t, rfl⟩ := ra; obtain ⟨u, rfl⟩ := rb; obtain ⟨⟨q1, q3, q4⟩, q2⟩ := q; exact lshift_int_small q1 (by lia) (by lia) (.int x q2)
  case Add.list.list =>
    obtain ⟨q1, q2⟩ := q
    obtain ⟨a, vs, rfl, z, r⟩ := ra; obtain ⟨b, ws, rfl, z', r'⟩ := rb
    obtain ⟨⟨cls, dd, data, sl⟩, ho, hc, n, hd⟩ := z.list x
    obtain ⟨⟨cls2, dd2, data2, sl2⟩, ho2, hc2, n2, hd2⟩ := z'.list x
    simp only at hc hd hc2 hd2
    subst hc hd hc2 hd2
    have e : vs.toArray ++ ws.toArray = (vs ++ ws).toArray := by simp
    have l1 := r.len; have l2 := r'.len
    refine concat_meets ⟨_, ho, rfl⟩ ⟨_, ho2, rfl⟩ noFill_list_add seq_list_add PySem.F.slot_list_add PySem.F.entry_list_add (PySem.F.args_list_add_2 _ _) (list_addW a b vs.toArray ws.toArray n n2 dd dd2 sl sl2 (by rw [sizeLine_eq]; simp only [List.size_toArray]; lia)) ⟨ho, ho2, ?_⟩
    rw [e]
    exact EP.newPush (tk := s.toks) x (r.append r') q2

theorem ev_bin {op : Operator} {l r : Expr} {p : Pos} {Q : R → VM → Prop} (hq : EvQ G n sc l V (fun a V₁ => EvQ G n sc r V₁ (fun b V₂ => BinRes op a.frz b.frz (fun c => Q c V₂)))) : EvQ G n sc (.BinOp l op r p) V Q :=
  fun en A E s Z al ek rm st => wpAny_BinOp (EvD.use (Q := fun a V₁ => EvQ G n sc r V₁ (fun b V₂ => BinRes op a b.frz (fun c => Q c V₂))) hq.frz ek rm st fun va s₁ Z₁ V₁ a g₁ x₁ ra h₁ =>
    EvD.use (Q := fun b V₂ => BinRes op a b (fun c => Q c V₂)) h₁.frz ek rm x₁ fun vb s₂ Z₂ V₂ b g₂ x₂ rb h₂ => wpAny_mono (bin_sound x₂ (ra.mono g₂.z) rb h₂) (fun _ _ h => h.pre (g₁.trans g₂)) fun _ _ e => e)
end
end Mine
end

section
open PySem PySem.W PyProof.Rows PySem.Calls
namespace Mine
section
variable {G : GC} {n : Nat} {sc : Scope} {en : Env} {V V' : VM} {Z Z' : Zm} {al : Str → Addr} {h h' : Heap} {s s' s₁ : Shared} {A : Around} {E : Value → Shared → Prop}

theorem Reps.ints : ∀ {ns : List Int} {vs : List Value}, Reps Z (ns.map D.int) vs → IntsAre vs ns
  | [], _, h => by rw [show _ = [] from h]; exact .nil
  | a :: ns, _, ⟨v, r, e, ⟨t, ht⟩, hs⟩ => by subst e; subst ht; exact .cons _ _ hs.ints
theorem IntsAre.reps : ∀ {ns : List Int} {vs : List Value}, IntsAre vs ns → Reps Z (ns.map D.int) vs
  | _, _, .nil => rfl
  | _, _, .cons a t h => ⟨_, _, rfl, ⟨t, rfl⟩, IntsAre.reps h⟩

-- comparisons
def CmpRes (op : CmpOp) (a b : D) (Q : Bool → Prop) : Prop := match op, a, b with
  | .Lt, .int x, .int y => Q (decide (x < y))
  | .LtE, .int x, .int y => Q (decide (x ≤ y))
  | .Gt, .int x, .int y => Q (decide (y < x))
  | .GtE, .int x, .int y => Q (decide (y ≤ x))
  | .Eq, .int x, .int y => Q (x == y)
  | .NotEq, .int x, .int y => Q (x != y)
  | .Eq, .bool x, .bool y => Q (x == y)
  | .Eq, .list xs, .list ys => ∃ ns ms : List Int, (xs = ns.map D.int ∧ ys = ms.map D.int) ∧ Q (decide (ns = ms))
  | .NotEq, .list xs, .list ys => ∃ ns ms : List Int, (xs = ns.map D.int ∧ ys = ms.map D.int) ∧ Q (!decide (ns = ms))
  | .NotIn, .int x, .list ys => ∃ ms : List Int, (ys = ms.map D.int) ∧ Q (!ms.contains x)
  | _, _, _ => False

theorem any_contains : ∀ {ms : List Int} {vs : List Value} {x : Int}, IntsAre vs ms → (vs.any fun y => match y with | .int i _ => i == x | _ => false) = ms.contains x
  | _, _, _, .nil => rfl
  | _, _, x, .cons a t h => by
    rw [List.any_cons, any_contains h, List.contains_cons]
    show (a == x || _) = _
    rw [show (a == x) = (x == a) from BEq.comm]
theorem cmp_sound {op : CmpOp} {a b : D} {va vb : Value} {Q : Bool → Prop} {P : Value → Shared → Prop} (rm : Rm A n) (x : St G en V Z al s.heap) (ra : Rep Z a va) (rb : Rep Z b vb) (q : CmpRes op a b Q)
    (k : ∀ c, Q c → P (.bool c) s) : wpAny (model G.prog G.w) A (compareOp op va vb) P E s := by
  cases op <;> (try exact False.elim q) <;> cases a <;> (try exact False.elim q) <;> cases b <;> (try exact False.elim q)
  case Lt.int.int => obtain ⟨t, rfl⟩ := ra; obtain ⟨u, rfl⟩ := rb; exact PySem.P.lt_int (k _ q)
  case LtE.int.int => obtain ⟨t, rfl⟩ := ra; obtain ⟨u, rfl⟩ := rb; exact PySem.P.le_int (k _ q)
  case Gt.int.int => obtain ⟨t, rfl⟩ := ra; obtain ⟨u, rfl⟩ := rb; exact PySem.P.gt_int (k _ q)
  case GtE.int.int => obtain ⟨t, rfl⟩ := ra; obtain ⟨u, rfl⟩ := rb; exact PySem.P.ge_int (k _ q)
  case Eq.int.int => obtain ⟨t, rfl⟩ := ra; obtain ⟨u, rfl⟩ := rb; exact PySem.P.eq_int (k _ q)
  case NotEq.int.int => obtain ⟨t, rfl⟩ := ra; obtain ⟨u, rfl⟩ := rb; exact PySem.P.ne_int (k _ q)
  case Eq.bool.bool => rw [show va = _ from ra, show vb = _ from rb]; exact eq_bool (k _ q)
  case Eq.list.list =>
    obtain ⟨a, vs, rfl, z, r⟩ := ra; obtain ⟨b, ws, rfl, z', r'⟩ := rb
    obtain ⟨ns, ms, ⟨rfl, rfl⟩, q⟩ := q
    exact ke_eq_ints (z.list x) (z'.list x) r.ints r'.ints (by have := rm.2.2; lia) (k _ q)
  case NotEq.list.list =>
    obtain ⟨a, vs, rfl, z, r⟩ := ra; obtain ⟨b, ws, rfl, z', r'⟩ := rb
    obtain ⟨ns, ms, ⟨rfl, rfl⟩, q⟩ := q
    exact ke_ne_ints (z.list x) (z'.list x) r.ints r'.ints (by have := rm.2.2; lia) (k _ q)
  case NotIn.int.list x0 _ =>
    obtain ⟨t, rfl⟩ := ra; obtain ⟨b, ws, rfl, z', r'⟩ := rb
    obtain ⟨ms, rfl, q⟩ := q
    refine PySem.SeqAt.notIn_listAt (fun y => match y with | .int i _ => i == x0 | _ => false) (z'.list x) (fun y hy => ?_) ?_
    · have : ∀ {vs : List Value} {ns : List Int}, IntsAre vs ns → ∀ y ∈ vs, ∃ i u, y = .int i u := by
        intro vs ns hI
        induction hI with
        | nil => intro y hy; cases hy
        | cons a t _ ih => intro y hy; rcases List.mem_cons.mp hy with rfl | hy; exact ⟨_, _, rfl⟩; exact ih y hy
      obtain ⟨i, u, rfl⟩ := this r'.ints y (by simpa using hy)
      exact (PySem.MeetsSeq.EqGives.int i x0 u t).at _ _
    · have e : (ws.toArray.any fun y => match y with | .int i _ => i == x0 | _ => false) = ms.contains x0 := by
        rw [← Array.any_toList]; exact any_contains r'.ints
      rw [e]; exact k _ q

theorem EP.boolV {Q : R → VM → Prop} {b : Bool} (x : St G en V Z al s.heap) (q : Q (.d (.bool b)) V) : EP G en V Z al s Q (.bool b) s := EP.bool (tk := s.toks) x q
theorem BP.here {Q : Bool → VM → Prop} {b : Bool} {tk : Nat} (x : St G en V Z al s.heap) (q : Q b V) : BP G en V Z al s Q b { s with toks := tk } := ⟨Z, V, .of_keeps fun _ _ e => e, x, q⟩

theorem ev_cmp {op : CmpOp} {l r : Expr} {p : Pos} {Q : R → VM → Prop} (hq : EvQ G n sc l V (fun a V₁ => EvQ G n sc r V₁ (fun b V₂ => CmpRes op a.frz b.frz (fun c => Q (.d (.bool c)) V₂))))
    (hm : behindInMarks op r = false := by with_unfolding_all rfl) : EvQ G n sc (.Compare l [op] [r] p) V Q :=
  fun en A E s Z al ek rm st => wpAny_Compare1 (EvD.use (Q := fun a V₁ => EvQ G n sc r V₁ (fun b V₂ => CmpRes op a b.frz (fun c => Q (.d (.bool c)) V₂))) hq.frz ek rm st fun va s₁ Z₁ V₁ a g₁ x₁ ra h₁ =>
    EvD.use (Q := fun b V₂ => CmpRes op a b (fun c => Q (.d (.bool c)) V₂)) h₁.frz ek rm x₁ fun vb s₂ Z₂ V₂ b g₂ x₂ rb h₂ => cmp_sound rm x₂ (ra.mono g₂.z) rb h₂ fun c qc => (EP.boolV x₂ qc).pre (g₁.trans g₂)) hm
theorem co_cmp {op : CmpOp} {l r : Expr} {p : Pos} {Q : Bool → VM → Prop} (hq : EvQ G n sc l V (fun a V₁ => EvQ G n sc r V₁ (fun b V₂ => CmpRes op a.frz b.frz (fun c => Q c V₂))))
    (hm : behindInMarks op r = false := by with_unfolding_all rfl) : CoQ G n sc (.Compare l [op] [r] p) V Q :=
  fun en A E s Z al ek rm st => wpAny_isTrue_Compare1 (EvD.use (Q := fun a V₁ => EvQ G n sc r V₁ (fun b V₂ => CmpRes op a b.frz (fun c => Q c V₂))) hq.frz ek rm st fun va s₁ Z₁ V₁ a g₁ x₁ ra h₁ =>
    EvD.use (Q := fun b V₂ => CmpRes op a b (fun c => Q c V₂)) h₁.frz ek rm x₁ fun vb s₂ Z₂ V₂ b g₂ x₂ rb h₂ => cmp_sound rm x₂ (ra.mono g₂.z) rb h₂ fun c qc => wpAny_truthy_bool ((BP.here (tk := s₂.toks) x₂ qc).pre (g₁.trans g₂))) hm
/-- a chain of two -/
theorem co_chain {op op' : CmpOp} {l m r : Expr} {p : Pos} {Q : Bool → VM → Prop}
    (hq : EvQ G n sc l V (fun a V₁ => EvQ G n sc m V₁ (fun b V₂ => CmpRes op a.frz b.frz (fun c => if c = true then EvQ G n sc r V₂ (fun d V₃ => CmpRes op' b.frz d.frz (fun c' => Q c' V₃)) else Q false V₂))))
    (hm : lastMarks [op, op'] [m, r] = false := by with_unfolding_all rfl) : CoQ G n sc (.Compare l [op, op'] [m, r] p) V Q :=
  fun en A E s Z al ek rm st => isTrue_chain (EvD.use (Q := fun a V₁ => EvQ G n sc m V₁ (fun b V₂ => CmpRes op a b.frz (fun c => if c = true then EvQ G n sc r V₂ (fun d V₃ => CmpRes op' b.frz d.frz (fun c' => Q c' V₃)) else Q false V₂))) hq.frz ek rm st fun va s₁ Z₁ V₁ a g₁ x₁ ra h₁ =>
    test_link (EvD.use (Q := fun b V₂ => CmpRes op a b (fun c => if c = true then EvQ G n sc r V₂ (fun d V₃ => CmpRes op' b d.frz (fun c' => Q c' V₃)) else Q false V₂)) h₁.frz ek rm x₁ fun vb s₂ Z₂ V₂ b g₂ x₂ rb h₂ =>
      cmp_sound rm x₂ (ra.mono g₂.z) rb h₂ fun c qc => wpAny_truthy_bool (by
        cases c with
        | false => exact (BP.here (tk := s₂.toks) x₂ qc).pre (g₁.trans g₂)
        | true =>
          simp only [if_true] at qc ⊢
          refine test_last ?_
          exact EvD.use (Q := fun d V₃ => CmpRes op' b d (fun c' => Q c' V₃)) (EvQ.frz qc) ek rm x₂ fun vd s₃ Z₃ V₃ d g₃ x₃ rd h₃ =>
            cmp_sound rm x₃ (rb.mono g₃.z) rd h₃ fun c' qc' => wpAny_truthy_bool ((BP.here (tk := s₃.toks) x₃ qc').pre ((g₁.trans g₂).trans g₃))))) hm

-- truth
def Tru : D → Option Bool
  | .bool b => some b
  | .int i => some (i != 0)
  | .list xs => some (!xs.isEmpty)
  | .tup _ => none
  | .non => none
theorem truthy_sound {d : D} {v : Value} {b : Bool} {P : Bool → Shared → Prop} (x : St G en V Z al s.heap) (r : Rep Z d v) (e : Tru d = some b) (hl : ∀ xs, d = .list xs → xs.length ≤ 2 ^ 20) (k : ∀ tk, P b { s with toks := tk }) :
    wpAny (model G.prog G.w) A (truthy v) P E s := by
  cases d with
  | bool b' => cases e; rw [show v = _ from r]; exact wpAny_truthy_bool (k s.toks)
  | int i => cases e; obtain ⟨t, rfl⟩ := r; exact PySem.P.truthy_int (k s.toks)
  | list xs =>
    cases e
    obtain ⟨a, vs, rfl, z, r⟩ := r
    refine wpAny_truthy_list (z.list x) ?_ ?_
    · have := r.len; have := hl xs rfl; simp only [List.size_toArray]; lia
    · have : vs.toArray.isEmpty = xs.isEmpty := by have := r.len; cases vs <;> cases xs <;> simp_all
      rw [this]; exact k _
  | tup xs => cases e
  | non => cases e
theorem co_plain {e : Expr} {Q : Bool → VM → Prop} (hq : EvQ G n sc e V (fun r V₁ => ∃ b, (Tru r.frz = some b ∧ ∀ xs, r.frz = .list xs → xs.length ≤ 2 ^ 20) ∧ Q b V₁))
    (he : ∀ en whole, isTrue e en whole = (do let v ← whole; standAt e.pos; holding [v] (truthy v)) := by intros; rfl) : CoQ G n sc e V Q :=
  fun en A E s Z al ek rm st => isTrue_plain (EvD.use (Q := fun d V₁ => ∃ b, (Tru d = some b ∧ ∀ xs, d = .list xs → xs.length ≤ 2 ^ 20) ∧ Q b V₁) hq.frz ek rm st fun v s₁ Z₁ V₁ d g₁ x₁ r ⟨b, ⟨eb, hl⟩, q⟩ =>
    truthy_sound x₁ r eb hl fun tk => (BP.here (tk := tk) x₁ q).pre g₁) (he _ _)
theorem co_not {e : Expr} {p : Pos} {Q : Bool → VM → Prop} (hq : CoQ G n sc e V (fun b V₁ => Q (!b) V₁)) : CoQ G n sc (.UnaryOp .Not e p) V Q :=
  fun en A E s Z al ek rm st => wpAny_isTrue_Not (CoQ.use hq ek rm st fun v s₁ Z₁ V₁ g₁ x₁ q => (BP.here (tk := s₁.toks) x₁ q).pre g₁)
theorem co_and {e f : Expr} {p : Pos} {Q : Bool → VM → Prop} (hq : CoQ G n sc e V (fun b V₁ => if b = true then CoQ G n sc f V₁ Q else Q false V₁)) : CoQ G n sc (.BoolOp .And [e, f] p) V Q :=
  fun en A E s Z al ek rm st => wpAny_isTrue_BoolOp (wpAny_allTrue_And_cons (CoQ.use hq ek rm st fun v s₁ Z₁ V₁ g₁ x₁ q => by
    cases v with
    | false => exact (BP.here (tk := s₁.toks) x₁ q).pre g₁
    | true =>
      simp only [if_true] at q ⊢
      refine wpAny_allTrue_And_cons (CoQ.use q ek rm x₁ fun v s₂ Z₂ V₂ g₂ x₂ q => ?_)
      cases v with
      | false => exact (BP.here (tk := s₂.toks) x₂ q).pre (g₁.trans g₂)
      | true => exact wpAny_allTrue_And_nil ((BP.here (tk := s₂.toks) x₂ q).pre (g₁.trans g₂))))
theorem co_or {e f : Expr} {p : Pos} {Q : Bool → VM → Prop} (hq : CoQ G n sc e V (fun b V₁ => if b = true then Q true V₁ else CoQ G n sc f V₁ Q)) : CoQ G n sc (.BoolOp .Or [e, f] p) V Q :=
  fun en A E s Z al ek rm st => wpAny_isTrue_BoolOp (wpAny_allTrue_Or_cons (CoQ.use hq ek rm st fun v s₁ Z₁ V₁ g₁ x₁ q => by
    cases v with
    | true => exact (BP.here (tk := s₁.toks) x₁ q).pre g₁
    | false =>
      simp only [Bool.false_eq_true, if_false] at q ⊢
      refine wpAny_allTrue_Or_cons (CoQ.use q ek rm x₁ fun v s₂ Z₂ V₂ g₂ x₂ q => ?_)
      cases v with
      | true => exact (BP.here (tk := s₂.toks) x₂ q).pre (g₁.trans g₂)
      | false => exact wpAny_allTrue_Or_nil ((BP.here (tk := s₂.toks) x₂ q).pre (g₁.trans g₂))))
-- as values: both sides bools
theorem ev_or {e f : Expr} {p : Pos} {Q : R → VM → Prop} (hq : EvQ G n sc e V (fun r V₁ => ∃ b, r = .d (.bool b) ∧ if b = true then Q (.d (.bool true)) V₁ else EvQ G n sc f V₁ Q)) : EvQ G n sc (.BoolOp .Or [e, f] p) V Q :=
  fun en A E s Z al ek rm st => wpAny_Or2 (wpAny_mono (hq en A E s Z al ek rm st) (fun v s₁ hs2 => by
    obtain ⟨Z₁, V₁, r, g₁, x₁, rr, b, er, q⟩ := hs2
    subst er
    rw [show v = _ from rr]
    refine wpAny_truthy_bool ?_
    cases b with
    | true => exact (EP.boolV x₁ q).pre g₁
    | false =>
      simp only [Bool.false_eq_true, if_false] at q ⊢
      exact q.useE ek rm x₁ g₁) fun _ _ e => e)
theorem ev_and {e f : Expr} {p : Pos} {Q : R → VM → Prop} (hq : EvQ G n sc e V (fun r V₁ => ∃ b, r = .d (.bool b) ∧ if b = true then EvQ G n sc f V₁ Q else Q (.d (.bool false)) V₁)) : EvQ G n sc (.BoolOp .And [e, f] p) V Q :=
  fun en A E s Z al ek rm st => wpAny_And2 (wpAny_mono (hq en A E s Z al ek rm st) (fun v s₁ hs1 => by
    obtain ⟨Z₁, V₁, r, g₁, x₁, rr, b, er, q⟩ := hs1
    subst er
    rw [show v = _ from rr]
    refine wpAny_truthy_bool ?_
    cases b with
    | false => exact (EP.boolV x₁ q).pre g₁
    | true =>
      simp only [if_true] at q ⊢
      exact q.useE ek rm x₁ g₁) fun _ _ e => e)
theorem ev_not {e : Expr} {p : Pos} {Q : R → VM → Prop} (hq : EvQ G n sc e V (fun r V₁ => ∃ b, r = .d (.bool b) ∧ Q (.d (.bool (!b))) V₁)) : EvQ G n sc (.UnaryOp .Not e p) V Q :=
  fun en A E s Z al ek rm st => wpAny_UnaryOp (wpAny_mono (hq en A E s Z al ek rm st) (fun v s₁ hq2 => by
    obtain ⟨Z₁, V₁, r, g₁, x₁, rr, b, er, q⟩ := hq2
    subst er
    rw [show v = _ from rr]
    exact not_of (wpAny_truthy_bool ((EP.boolV x₁ q).pre g₁))) fun _ _ e => e)
theorem ev_neg {e : Expr} {p : Pos} {Q : R → VM → Prop} (hq : EvQ G n sc e V (fun r V₁ => ∃ i, r = .d (.int i) ∧ Q (.d (.int (-i))) V₁)) : EvQ G n sc (.UnaryOp .USub e p) V Q :=
  fun en A E s Z al ek rm st => wpAny_UnaryOp (wpAny_mono (hq en A E s Z al ek rm st) (fun v s₁ hq1 => by
    obtain ⟨Z₁, V₁, r, g₁, x₁, rr, b, er, q⟩ := hq1
    subst er
    obtain ⟨t, rfl⟩ := rr
    exact PySem.P.neg_int ((EP.int x₁ q).pre g₁)) fun _ _ e => e)
theorem ev_ite {t e f : Expr} {p : Pos} {Q : R → VM → Prop} (hq : CoQ G n sc t V (fun b V₁ => if b = true then EvQ G n sc e V₁ Q else EvQ G n sc f V₁ Q)) : EvQ G n sc (.IfExp t e f p) V Q :=
  fun en A E s Z al ek rm st => wpAny_IfExp (CoQ.use hq ek rm st fun v s₁ Z₁ V₁ g₁ x₁ q => by
    cases v with
    | true => exact EvQ.useE q ek rm x₁ g₁
    | false => exact EvQ.useE q ek rm x₁ g₁)

-- items
def SubRes (a i : D) (Q : D → Prop) : Prop := match a, i with
  | .list xs, .int k => ∃ d, (0 ≤ k ∧ k < 2 ^ 62 ∧ xs[k.toNat]? = some d) ∧ Q d
  | .tup xs, .int k => ∃ d, (0 ≤ k ∧ k < 2 ^ 62 ∧ xs[k.toNat]? = some d) ∧ Q d
  | _, _ => False
def notSlice : Expr → Bool
  | .Slice .. => false
  | _ => true
theorem subscripted_plain {e : Expr} (h : notSlice e = true) (o i : Value) : subscripted e false o i = operate [o, i] (getItem o i) := by
  cases e <;> first | rfl | cases h
theorem sub_sound {value slice : Expr} {a i : D} {va vi : Value} {Q : D → Prop} {P : Value → Shared → Prop} (x : St G en V Z al s.heap) (ra : Rep Z a va) (ri : Rep Z i vi) (q : SubRes a i Q) (hs : notSlice slice = true)
    (k : ∀ v d, Rep Z d v → Q d → P v s) : wpAny (model G.prog G.w) A (subscriptTail value slice va vi) P E s := by
  cases a <;> (try exact False.elim q) <;> cases i <;> (try exact False.elim q)
  case list.int =>
    obtain ⟨a, vs, rfl, z, r⟩ := ra
    obtain ⟨t, rfl⟩ := ri
    obtain ⟨d, ⟨h0, h1, e⟩, q⟩ := q
    obtain ⟨v, ev, rv⟩ := r.get _ _ e
    have hl := z.list x
    exact tail_any hl.typeIs slot_list_getitem.lookup (wpAny_getItem_list hl h0 (by lia) (by simpa using ev) (k v d rv q)) (subscripted_plain hs _ _)
  case tup.int =>
    obtain ⟨a, vs, rfl, z, r⟩ := ra
    obtain ⟨t, rfl⟩ := ri
    obtain ⟨d, ⟨h0, h1, e⟩, q⟩ := q
    obtain ⟨v, ev, rv⟩ := r.get _ _ e
    have hl : IsTup s.heap a vs.toArray := z.tuple x
    have hlt := (List.getElem?_eq_some_iff.mp ev).1
    exact tail_any hl.typeIs slot_tuple_getitem.lookup (getItem_tuple (j := _) hl (by lia) (by lia) (seqIndex_of h0 (by simp only [List.size_toArray]; lia)) (by simpa using ev) (k v d rv q)) (subscripted_plain hs _ _)
theorem ev_sub {value slice : Expr} {p : Pos} {Q : R → VM → Prop} (hq : EvQ G n sc value V (fun a V₁ => EvQ G n sc slice V₁ (fun i V₂ => SubRes a.frz i.frz (fun d => Q (.d d) V₂)))) (hs : notSlice slice = true := by rfl) :
    EvQ G n sc (.Subscript value slice p) V Q :=
  fun en A E s Z al ek rm st => Subscript_ (EvD.use (Q := fun a V₁ => EvQ G n sc slice V₁ (fun i V₂ => SubRes a i.frz (fun d => Q (.d d) V₂))) hq.frz ek rm st fun va s₁ Z₁ V₁ a g₁ x₁ ra h₁ =>
    EvD.use (Q := fun i V₂ => SubRes a i (fun d => Q (.d d) V₂)) h₁.frz ek rm x₁ fun vb s₂ Z₂ V₂ b g₂ x₂ rb h₂ => sub_sound x₂ (ra.mono g₂.z) rb h₂ hs fun v d rv qd => (EP.val (tk := s₂.toks) x₂ rv qd).pre (g₁.trans g₂))
/-- an item of a list that may still change -/
theorem ev_sub_own {y : Str} {py : Pos} {slice : Expr} {p : Pos} {ds : List D} {Q : R → VM → Prop} (hv : V.lookup y = some (.own ds))
    (hq : EvQ G n sc slice V (fun i V₁ => ∃ es k d, (V₁.lookup y = some (.own es) ∧ i = .d (.int k) ∧ 0 ≤ k ∧ k < 2 ^ 62 ∧ es[k.toNat]? = some d) ∧ Q (.d d) V₁)) (hs : notSlice slice = true := by rfl) (hn : okName y = true := by decide) :
    EvQ G n sc (.Subscript (.Name y py) slice p) V Q :=
  fun en A E s Z al ek rm st => by
    obtain ⟨l, _⟩ := st.own y ds hv
    refine Subscript_ (wpAny_Name (load_var ek l ?_ (okCls hn)) (okDebug hn))
    refine wpAny_mono (hq en A E s Z al ek rm st) (fun v s₁ hr1 => ?_) fun _ _ e => e
    obtain ⟨Z₁, V₁, r, g₁, x₁, rr, es, k, d, ⟨e1, e2, h0, h1, e⟩, q⟩ := hr1
    subst e2
    obtain ⟨t, rfl⟩ := rr
    obtain ⟨_, _, vs, m, hl0, r⟩ := x₁.own y es e1
    have hl : s₁.heap.IsList (al y) vs.toArray := ⟨_, hl0, rfl, m, rfl⟩
    obtain ⟨w, ew, rw⟩ := r.get _ _ e
    exact tail_any hl.typeIs slot_list_getitem.lookup (wpAny_getItem_list hl h0 (by lia) (by simpa using ew) ((EP.val (tk := s₁.toks) x₁ rw q).pre g₁)) (subscripted_plain hs _ _)

-- slices
def cutTo (xs : List α) (k : Int) : List α := if 0 ≤ k then xs.take k.toNat else xs.take (xs.length - (-k).toNat)
theorem pick_upto (vs : List Value) (k : Int) : slicePick vs.toArray none (some k) none = (cutTo vs k).toArray := by
  unfold cutTo
  split
  · rename_i h
    obtain ⟨m, rfl⟩ := Int.eq_ofNat_of_zero_le h
    rw [slicePick_upto']; simp
  · rename_i h
    obtain ⟨m, hm⟩ := Int.eq_ofNat_of_zero_le (show 0 ≤ -k by lia)
    have e : k = -(m : Int) := by lia
    subst e
    rw [slicePick_butLast _ m (by lia)]; simp
theorem Reps.cutTo {xs : List D} {vs : List Value} (r : Reps Z xs vs) (k : Int) : Reps Z (cutTo xs k) (cutTo vs k) := by
  unfold Mine.cutTo
  split
  · exact r.take _
  · rw [r.len]; exact r.take _
theorem two_push {h : Heap} {o₁ o₂ : Obj} (a : Addr) (o : Obj) (e : h.get? a = some o) : ((h.push o₁).push o₂).get? a = some o := Heap.get?_push_of_some _ (Heap.get?_push_of_some _ e)
theorem slice_sound {value slice : Expr} {a : Addr} {vs ws : List Value} {xs ys : List D} {vl vu : Value} {lo hi : Option Int} {Q : R → VM → Prop} {m : Nat} (x : St G en V Z al s.heap) (hl : s.heap.IsList a vs.toArray) (pl : IsPart vl lo) (pu : IsPart vu hi)
    (e : slicePick vs.toArray lo hi none = ws.toArray) (r : Reps Z ys ws) (hsz : vs.length ≤ 2 ^ 20) (q : Q (.new ys) V)
    (hs : ∀ o i, subscripted slice false o i = operate [i, o] (getItem o i)) :
    wpAny (model G.prog G.w) A (subscriptTail value slice (.ref a) (.ref s.heap.objs.size)) (EP G en V Z al s Q) E { s with heap := s.heap.push { cls := .type "slice", data := .fields #[vl, vu, .none] } } := by
  have hl' := hl.push { cls := .type "slice", data := .fields #[vl, vu, .none] }
  have hz : vs.toArray.size ≤ sizeLine := by rw [sizeLine_eq]; simp only [List.size_toArray]; lia
  refine tail_any (Heap.IsList.typeIs (s := { s with heap := s.heap.push { cls := .type "slice", data := .fields #[vl, vu, .none] } }) hl') list_getitem_lookup
    (wpAny_getItem_list_slice hl' (Heap.IsSliceOf.new ..) pl pu .none (by simp) ?_ hz) (hs _ _)
  rw [e]
  refine EP.newK (tk := s.toks) (vs := ws) (m := 0) x two_push ?_ (Heap.get?_push_size _ rfl) r q
  cases e2 : s.heap.get? (s.heap.push { cls := .type "slice", data := .fields #[vl, vu, .none] }).objs.size with
  | none => rfl
  | some o => exact absurd (Heap.lt_size e2) (by rw [Heap.size_push]; exact Nat.not_lt.mpr (Nat.le_succ _))
theorem ev_slice_upto {value hi : Expr} {p p' : Pos} {Q : R → VM → Prop}
    (hq : EvQ G n sc value V (fun a V₁ => EvQ G n sc hi V₁ (fun i V₂ => ∃ xs k, (a.frz = .list xs ∧ i.frz = .int k ∧ xs.length ≤ 2 ^ 20) ∧ Q (.new (cutTo xs k)) V₂))) :
    EvQ G n sc (.Subscript value (.Slice none (some hi) none p) p') V Q :=
  fun en A E s Z al ek rm st => Subscript_ (EvD.use (Q := fun a V₁ => EvQ G n sc hi V₁ (fun i V₂ => ∃ xs k, (a = .list xs ∧ i.frz = .int k ∧ xs.length ≤ 2 ^ 20) ∧ Q (.new (cutTo xs k)) V₂)) hq.frz ek rm st fun va s₁ Z₁ V₁ a g₁ x₁ ra h₁ =>
    wpAny_Slice (wpAny_evalPart_none (wpAny_evalPart_some (EvD.use (Q := fun i V₂ => ∃ xs k, (a = .list xs ∧ i = .int k ∧ xs.length ≤ 2 ^ 20) ∧ Q (.new (cutTo xs k)) V₂) h₁.frz ek rm x₁ fun vb s₂ Z₂ V₂ b g₂ x₂ rb ⟨xs, k, ⟨e1, e2, hsz⟩, q⟩ => by
      subst e1 e2
      obtain ⟨c, vs, rfl, zc, rc⟩ := ra.mono g₂.z
      obtain ⟨t, rfl⟩ := rb
      refine wpAny_evalPart_none ?_
      exact wpAny_mono (slice_sound (m := 0) (xs := xs) x₂ (zc.list x₂) .none (.int k t) (pick_upto vs k) (rc.cutTo k) (by rw [rc.len]; exact hsz) q (fun _ _ => rfl)) (fun _ _ h => h.pre (g₁.trans g₂)) fun _ _ e => e))))
theorem ev_slice_from {value lo : Expr} {p p' : Pos} {Q : R → VM → Prop}
    (hq : EvQ G n sc value V (fun a V₁ => EvQ G n sc lo V₁ (fun i V₂ => ∃ xs k, (a.frz = .list xs ∧ i.frz = .int k ∧ 0 ≤ k ∧ xs.length ≤ 2 ^ 20) ∧ Q (.new (xs.drop k.toNat)) V₂))) :
    EvQ G n sc (.Subscript value (.Slice (some lo) none none p) p') V Q :=
  fun en A E s Z al ek rm st => Subscript_ (EvD.use (Q := fun a V₁ => EvQ G n sc lo V₁ (fun i V₂ => ∃ xs k, (a = .list xs ∧ i.frz = .int k ∧ 0 ≤ k ∧ xs.length ≤ 2 ^ 20) ∧ Q (.new (xs.drop k.toNat)) V₂)) hq.frz ek rm st fun va s₁ Z₁ V₁ a g₁ x₁ ra h₁ =>
    wpAny_Slice (wpAny_evalPart_some (EvD.use (Q := fun i V₂ => ∃ xs k, (a = .list xs ∧ i = .int k ∧ 0 ≤ k ∧ xs.length ≤ 2 ^ 20) ∧ Q (.new (xs.drop k.toNat)) V₂) h₁.frz ek rm x₁ fun vb s₂ Z₂ V₂ b g₂ x₂ rb ⟨xs, k, ⟨e1, e2, h0, hsz⟩, q⟩ => by
      subst e1 e2
      obtain ⟨c, vs, rfl, zc, rc⟩ := ra.mono g₂.z
      obtain ⟨t, rfl⟩ := rb
      refine wpAny_evalPart_none (wpAny_evalPart_none ?_)
      obtain ⟨m, rfl⟩ := Int.eq_ofNat_of_zero_le h0
      exact wpAny_mono (slice_sound (m := 0) (xs := xs) x₂ (zc.list x₂) (.int _ t) .none (by rw [slicePick_from']) (rc.drop m) (by rw [rc.len]; exact hsz) q (fun _ _ => rfl)) (fun _ _ h => h.pre (g₁.trans g₂)) fun _ _ e => e)))
end
end Mine
end

section
open PySem PySem.W PyProof.Rows PySem.Calls
namespace Mine
section
variable {G : GC} {n : Nat} {sc : Scope} {en : Env} {V V' : VM} {Z Z' : Zm} {al : Str → Addr} {h h' : Heap} {s s' s₁ : Shared} {A : Around} {E : Value → Shared → Prop}

def notStar : Expr → Bool
  | .Starred .. => false
  | _ => true
def EvL (G : GC) (n : Nat) (sc : Scope) : List Expr → VM → (List D → VM → Prop) → Prop
  | [], V, Q => Q [] V
  | e :: es, V, Q => notStar e = true ∧ EvQ G n sc e V (fun r V₁ => EvL G n sc es V₁ (fun ds V₂ => Q (r.frz :: ds) V₂))
theorem allStar {l : List Expr} (h : l.all notStar = true) : ∀ x ∈ l, notStar x = true := List.all_eq_true.mp h
/-- what a list of expressions leaves -/
def LP (G : GC) (en : Env) (V : VM) (Z : Zm) (al : Str → Addr) (s : Shared) (Q : List D → VM → Prop) (vs : List Value) (s' : Shared) : Prop :=
  ∃ Z' V' ds, Go en V Z al s V' Z' s' ∧ St G en V' Z' al s'.heap ∧ Reps Z' ds vs ∧ Q ds V'
theorem starEach_cons {e : Expr} {es : List Expr} (h : notStar e = true) : starEach (e :: es) en = (false, eval e en) :: starEach es en := by
  cases e <;> first | rfl | cases h
theorem any_star : ∀ {es : List Expr} {pos : Pos}, (∀ e ∈ es, notStar e = true) → (backTo pos (starEach es en)).any (·.1) = false
  | [], _, _ => rfl
  | e :: es, pos, h => by
    rw [starEach_cons (h e List.mem_cons_self)]
    show (false || (backTo pos (starEach es en)).any (·.1)) = false
    rw [any_star fun x hx => h x (List.mem_cons_of_mem _ hx)]; rfl
theorem EvL.sound : ∀ {es : List Expr} {V : VM} {Z : Zm} {s : Shared} {pos : Pos} {Q : List D → VM → Prop}, EvL G n sc es V Q → EnvOk en sc → Rm A n → St G en V Z al s.heap →
    wpAny (model G.prog G.w) A (spliced (backTo pos (starEach es en))) (LP G en V Z al s Q) E s
  | [], V, Z, s, pos, Q, hq, ek, rm, x => spliced_nil ⟨Z, V, [], .refl .., x, rfl, hq⟩
  | e :: es, V, Z, s, pos, Q, hq, ek, rm, x => by
    rw [starEach_cons hq.1]
    show wpAny _ A (spliced ((false, eval e en) :: backTo pos (starEach es en))) _ E s
    refine spliced_cons (EvD.use (Q := fun d V₁ => EvL G n sc es V₁ (fun ds V₂ => Q (d :: ds) V₂)) (EvQ.frz hq.2) ek rm x fun v s₁ Z₁ V₁ d g₁ x₁ r h₁ => ?_)
    refine wpAny_mono (EvL.sound h₁ ek rm x₁) (fun vs s₂ hr1 => ?_) fun _ _ e => e
    obtain ⟨Z₂, V₂, ds, g₂, x₂, rs, q⟩ := hr1
    exact ⟨Z₂, V₂, d :: ds, g₁.trans g₂, x₂, .cons (r.mono g₂.z) rs, q⟩
theorem ev_list {es : List Expr} {p : Pos} {Q : R → VM → Prop} (hq : EvL G n sc es V (fun ds V₁ => ds.length ≤ 2 ^ 20 ∧ Q (.new ds) V₁)) : EvQ G n sc (.List es p) V Q :=
  fun en A E s Z al ek rm st => wpAny_List (wpAny_mono (hq.sound ek rm st) (fun vs s₁ hq3 => by
   obtain ⟨Z₁, V₁, ds, g₁, x₁, r, hl, q⟩ := hq3
   exact
    ⟨by rw [r.len, sizeLine_eq]; omega, (EP.newPush (tk := s₁.toks) (m := 0) x₁ r q).pre g₁⟩) fun _ _ e => e)
theorem ev_tuple {es : List Expr} {k : Nat} {p : Pos} {Q : R → VM → Prop} (hq : EvL G n sc es V (fun ds V₁ => ds.length ≤ 2 ^ 20 ∧ Q (.d (.tup ds)) V₁)) : EvQ G n sc (.Tuple es k p) V Q :=
  fun en A E s Z al ek rm st => wpAny_Tuple (wpAny_mono (hq.sound ek rm st) (fun vs s₁ hq2 => by
   obtain ⟨Z₁, V₁, ds, g₁, x₁, r, hl, q⟩ := hq2
   exact
    ⟨by rw [r.len, sizeLine_eq]; omega, (EP.tupPush (tk := s₁.toks) (m := 0) x₁ r q).pre g₁⟩) fun _ _ e => e)

-- calls
def CallP (G : GC) (n : Nat) (f : Value) (ds : List D) (V : VM) (Q : R → VM → Prop) : Prop :=
  ∀ en A E s Z al vs, Rm A n → St G en V Z al s.heap → Reps Z ds vs → wpAny (model G.prog G.w) A (call f vs) (EP G en V Z al s Q) E s
inductive Plain : Value → Prop
  | builtin (id : String) : Plain (.builtin id)
  | type (T : String) : Plain (.type T)
def isGlob (sc : Scope) (x : Str) : Prop := sc.names.lookup x = some .globalImplicit
theorem load_glob {x : Str} {p : Pos} {v : Value} {Q : Value → Shared → Prop} (ek : EnvOk en sc) (hg : isGlob sc x) (st : St G en V Z al s.heap) (hv : G.mg x = some v) (hn : okName x = true) (q : Q v s) :
    wpAny (model G.prog G.w) A (eval (.Name x p) en) Q E s := by
  have e : en.kindOf x = some .globalImplicit := by unfold Env.kindOf; rw [ek.scope]; exact hg
  exact Name_function_global (by rw [ek.scope]; exact ek.kind) e (loadGlobal_global (by rw [ek.globals]; exact (G.g.keeps fun b o e => st.fz _ _ (st.base _ _ e))) hv q) (okDebug hn)
theorem load_blt {x : Str} {p : Pos} {v : Value} {Q : Value → Shared → Prop} (ek : EnvOk en sc) (hg : isGlob sc x) (st : St G en V Z al s.heap) (hv : bootBuiltins x = some v) (hx : x ∈ bltN) (hn : okName x = true) (q : Q v s) :
    wpAny (model G.prog G.w) A (eval (.Name x p) en) Q E s := by
  have e : en.kindOf x = some .globalImplicit := by unfold Env.kindOf; rw [ek.scope]; exact hg
  have k : ∀ b o, G.hT.get? b = some o → s.heap.get? b = some o := fun b o e => st.fz _ _ (st.base _ _ e)
  exact Name_function_global (by rw [ek.scope]; exact ek.kind) e (loadGlobal_builtin (by rw [ek.globals]; exact G.g.keeps k) (G.free x hx) (by rw [ek.builtins]; exact G.b.keeps k) ((G.mbv x hx).trans hv) q) (okDebug hn)

theorem callWith_plain {pos : Pos} {f : Value} {e : Expr} {es : List Expr} {P : Value → Shared → Prop} (hf : Plain f) (hs : ∀ x ∈ e :: es, notStar x = true)
    (h : wpAny (model G.prog G.w) A (spliced (backTo pos (starEach (e :: es) en))) (fun vs s₁ => wpAny (model G.prog G.w) A (call f vs) P E s₁) E s) :
    wpAny (model G.prog G.w) A (callWith pos f [] (backTo pos (starEach (e :: es) en)) []) P E s := by
  have e1 : backTo pos (starEach (e :: es) en) = (false, eval e en) :: backTo pos (starEach es en) := by rw [starEach_cons (hs e List.mem_cons_self)]; rfl
  have hp := any_star (en := en) (pos := pos) hs
  rw [e1] at h hp ⊢
  cases hf with
  | builtin id => exact callWith_builtin hp (evalArgs_plain h)
  | type T => exact PySem.callWith_type hp (evalArgs_plain h)
theorem ev_call_blt {x : Str} {px pos : Pos} {f : Value} {e : Expr} {es : List Expr} {Q : R → VM → Prop} (hg : isGlob sc x) (hv : bootBuiltins x = some f) (hf : Plain f)
    (hq : EvL G n sc (e :: es) V (fun ds V₁ => CallP G n f ds V₁ Q)) (hs : ∀ x ∈ e :: es, notStar x = true := by exact allStar (by rfl)) (hx : x ∈ bltN := by decide) (hn : okName x = true := by decide) :
    EvQ G n sc (.Call (.Name x px) (e :: es) [] pos) V Q :=
  fun en A E s Z al ek rm st => wpAny_Call_NameR (load_blt ek hg st hv hx hn (callWith_plain hf hs (wpAny_mono (hq.sound ek rm st) (fun vs s₁ hq1 => by
   obtain ⟨Z₁, V₁, ds, g₁, x₁, r, c⟩ := hq1
   exact
    wpAny_mono (c en A E s₁ Z₁ al vs rm x₁ r) (fun _ _ h => h.pre g₁) fun _ _ e => e) fun _ _ e => e)))
theorem ev_call_fn {x : Str} {px pos : Pos} {fa : Addr} {e : Expr} {es : List Expr} {Q : R → VM → Prop} {o : Obj} {fd : FuncData} (hg : isGlob sc x) (hv : G.mg x = some (.ref fa)) (ho : G.hT.get? fa = some o) (hd : o.data = .func fd)
    (hq : EvL G n sc (e :: es) V (fun ds V₁ => CallP G n (.ref fa) ds V₁ Q)) (hs : ∀ x ∈ e :: es, notStar x = true := by exact allStar (by rfl)) (hn : okName x = true := by decide) :
    EvQ G n sc (.Call (.Name x px) (e :: es) [] pos) V Q :=
  fun en A E s Z al ek rm st => wpAny_Call_NameR (load_glob ek hg st hv hn (by
    have e1 : backTo pos (starEach (e :: es) en) = (false, eval e en) :: backTo pos (starEach es en) := by rw [starEach_cons (hs e List.mem_cons_self)]; rfl
    have hq' := hq.sound (pos := pos) (E := E) ek rm st
    rw [e1] at hq' ⊢
    refine callWith_function (o := o) (fd := fd) (evalArgs_plain (wpAny_mono hq' (fun vs s₁ ⟨Z₁, V₁, ds, g₁, x₁, r, c⟩ => ⟨⟨x₁.fz _ _ (x₁.base _ _ ho), hd⟩, ?_⟩) fun _ _ e => e))
    exact wpAny_mono (c en A E s₁ Z₁ al vs rm x₁ r) (fun _ _ h => h.pre g₁) fun _ _ e => e))

-- built-ins
theorem call_len {xs : List D} {Q : R → VM → Prop} (hl : xs.length ≤ 2 ^ 20) (q : Q (.d (.int xs.length)) V) : CallP G n (.builtin "len") [.list xs] V Q :=
  fun en A E s Z al vs rm x r => by
    obtain ⟨v, r', rfl, ⟨a, ws, rfl, z, rs⟩, hr⟩ := r
    rw [show r' = [] from hr]
    refine len_list (z.list x) (by simp only [List.size_toArray, rs.len]; omega) ?_
    have e : (ws.toArray.size : Int) = (xs.length : Int) := by simp [rs.len]
    rw [e]; exact .int x q
theorem call_abs {i : Int} {Q : R → VM → Prop} (q : Q (.d (.int (if i < 0 then -i else i))) V) : CallP G n (.builtin "abs") [.int i] V Q :=
  fun en A E s Z al vs rm x r => by
    obtain ⟨v, r', rfl, ⟨t, rfl⟩, hr⟩ := r
    rw [show r' = [] from hr]
    exact call_abs_int fun u tk => .int x q
theorem call_max2 {i j : Int} {Q : R → VM → Prop} (q : Q (.d (.int (max i j))) V) : CallP G n (.builtin "max") [.int i, .int j] V Q :=
  fun en A E s Z al vs rm x r => by
    obtain ⟨v, r', rfl, ⟨t, rfl⟩, w, r'', rfl, ⟨u, rfl⟩, hr⟩ := r
    rw [show r'' = [] from hr]
    refine max_two_ints rm.1 fun h' tk k => ?_
    by_cases c : j > i
    · rw [if_pos c]; exact .valK x k (show Rep Z (.int j) _ from ⟨_, rfl⟩) (by rw [Int.max_eq_right (by omega)] at q; exact q)
    · rw [if_neg c]; exact .valK x k (show Rep Z (.int i) _ from ⟨_, rfl⟩) (by rw [Int.max_eq_left (by omega)] at q; exact q)
theorem call_max1 {ns : List Int} {Q : R → VM → Prop} (hne : ns ≠ []) (q : ∀ m, m ∈ ns → (∀ a ∈ ns, a ≤ m) → Q (.d (.int m)) V) : CallP G n (.builtin "max") [.list (ns.map .int)] V Q :=
  fun en A E s Z al vs rm x r => by
    obtain ⟨v, r', rfl, ⟨a, ws, rfl, z, rs⟩, hr⟩ := r
    rw [show r' = [] from hr]
    have hi := rs.ints
    have hl := z.list x
    obtain ⟨xs, e⟩ := hi.allInts.items
    have hns : ns = xs.toList.map (·.1) := by rw [← hi.numsOf, ← nums_intItems, ← e]
    have hsz : 0 < xs.size := by
      have h3 := List.length_pos_iff.mpr hne; rw [hns, List.length_map, Array.length_toList] at h3; exact h3
    rw [e] at hl
    refine max_intList rm.1 hl hsz fun v h' tk hv hk => ?_
    obtain ⟨t, rfl⟩ := intItems_at hv
    obtain ⟨h1, h2⟩ := argBest_gt (numAt xs) (xs.size - 1)
    refine .valK x hk (show Rep Z (.int _) _ from ⟨_, rfl⟩) (q _ ?_ fun a ha => ?_)
    · rw [hns, numAt_eq]; exact getD_mem (by rw [List.length_map, Array.length_toList]; omega)
    · rw [hns] at ha
      obtain ⟨j, hj, rfl⟩ := mem_getD ha
      rw [List.length_map, Array.length_toList] at hj
      rw [← numAt_eq]; exact h2 j (by omega)
theorem call_min1 {ns : List Int} {Q : R → VM → Prop} (hne : ns ≠ []) (q : ∀ m, m ∈ ns → (∀ a ∈ ns, m ≤ a) → Q (.d (.int m)) V) : CallP G n (.builtin "min") [.list (ns.map .int)] V Q :=
  fun en A E s Z al vs rm x r => by
    obtain ⟨v, r', rfl, ⟨a, ws, rfl, z, rs⟩, hr⟩ := r
    rw [show r' = [] from hr]
    have hi := rs.ints
    have hl := z.list x
    obtain ⟨xs, e⟩ := hi.allInts.items
    have hns : ns = xs.toList.map (·.1) := by rw [← hi.numsOf, ← nums_intItems, ← e]
    have hsz : 0 < xs.size := by
      have h3 := List.length_pos_iff.mpr hne; rw [hns, List.length_map, Array.length_toList] at h3; exact h3
    rw [e] at hl
    refine min_intList rm.1 hl hsz fun v h' tk hv hk => ?_
    obtain ⟨t, rfl⟩ := intItems_at hv
    obtain ⟨h1, h2⟩ := argBest_lt (numAt xs) (xs.size - 1)
    refine .valK x hk (show Rep Z (.int _) _ from ⟨_, rfl⟩) (q _ ?_ fun a ha => ?_)
    · rw [hns, numAt_eq]; exact getD_mem (by rw [List.length_map, Array.length_toList]; omega)
    · rw [hns] at ha
      obtain ⟨j, hj, rfl⟩ := mem_getD ha
      rw [List.length_map, Array.length_toList] at hj
      rw [← numAt_eq]; exact h2 j (by omega)
theorem call_sum {ns : List Int} {Q : R → VM → Prop} (q : Q (.d (.int ns.sum)) V) : CallP G n (.builtin "sum") [.list (ns.map .int)] V Q :=
  fun en A E s Z al vs rm x r => by
    obtain ⟨v, r', rfl, ⟨a, ws, rfl, z, rs⟩, hr⟩ := r
    rw [show r' = [] from hr]
    have hi := rs.ints
    have hl := z.list x
    obtain ⟨xs, e⟩ := hi.allInts.items
    have hns : ns = xs.toList.map (·.1) := by rw [← hi.numsOf, ← nums_intItems, ← e]
    rw [e] at hl
    refine sum_intListG rm.1 hl fun h' tk t' hk => ?_
    rw [preSum_eq, List.take_of_length_le (by simp), ← hns]
    exact .valK x hk (show Rep Z (.int _) _ from ⟨_, rfl⟩) q
theorem call_sortedI {ns : List Int} {Q : R → VM → Prop} (hl : ns.length < 64) (q : ∀ ms : List Int, ms.Perm ns → ms.Pairwise (· ≤ ·) → Q (.new (ms.map .int)) V) : CallP G n (.builtin "sorted") [.list (ns.map .int)] V Q :=
  fun en A E s Z al vs rm x r => by
    obtain ⟨v, r', rfl, ⟨a, ws, rfl, z, rs⟩, hr⟩ := r
    rw [show r' = [] from hr]
    refine sorted_ints (z.list x) rs.ints (by rw [rs.len, List.length_map]; exact hl) fun out ns' a1 a2 a3 => ?_
    obtain ⟨e, he⟩ := sortedAll_at s.heap ws out
    refine EP.newK (tk := s.toks) (vs := out.toList) (m := e) x (fun _ _ => sortedAll_old) ?_ (by rw [he]) (IntsAre.reps a1) (q ns' a2 a3)
    cases e2 : s.heap.get? (s.heap.objs.size + 1) with
    | none => rfl
    | some o => exact absurd (Heap.lt_size e2) (Nat.not_lt.mpr (Nat.le_succ _))
theorem call_list {xs : List D} {Q : R → VM → Prop} (hl : xs.length ≤ 2 ^ 20) (q : Q (.new xs) V) : CallP G n (.type "list") [.list xs] V Q :=
  fun en A E s Z al vs rm x r => by
    obtain ⟨v, r', rfl, ⟨a, ws, rfl, z, rs⟩, hr⟩ := r
    rw [show r' = [] from hr]
    obtain ⟨o, ho, hc, m, hd⟩ := z.list x
    refine call_list_seq (T := "list") a (.inl rfl) ho hc hd (fun h' c' hk hn => ?_) (by rw [sizeLine_eq]; simp only [List.size_toArray, rs.len]; omega)
    exact EP.newK (tk := s.toks) (vs := ws) (m := c') x hk (get_size _) hn rs q
theorem call_int_of {b : Bool} {Q : R → VM → Prop} (q : Q (.d (.int (if b = true then 1 else 0))) V) : CallP G n (.type "int") [.bool b] V Q :=
  fun en A E s Z al vs rm x r => by
    obtain ⟨v, r', rfl, hb, hr⟩ := r
    rw [show r' = [] from hr, show v = _ from hb]
    exact call_int_bool (.int x q)
end
end Mine
end

section
open PySem PySem.W PyProof.Rows PySem.Calls
namespace Mine

inductive Fl where
  | next | brk | cont
  | ret (r : R)

/-- what a statement may do -/
def okJar (sc : Scope) (x : Str) : Prop := x ≠ ("jar" : Str) ∨ sc.names.lookup ("script" : Str) = some .local
def JW (en : Env) (x : Str) : Prop := okJar en.scope x
structure GoS (W : Str → Prop) (en : Env) (V : VM) (Z : Zm) (al : Str → Addr) (s : Shared) (V' : VM) (Z' : Zm) (al' : Str → Addr) (s' : Shared) : Prop where
  z : Z.le Z'
  zn : ∀ a o, Z' a = some o → Z a = some o ∨ WE V al a ∨ s.heap.get? a = none
  obj : ∀ a o, s.heap.get? a = some o → ¬ WE V al a → a ≠ en.locals → (∀ x, W x → en.kindOf x = some .cell → en.cells.lookup x ≠ some a) → s'.heap.get? a = some o
  dom : ∀ a o, s.heap.get? a = some o → ∃ o', s'.heap.get? a = some o'
  own : ∀ x ds, V'.lookup x = some (.own ds) → (∃ y es, V.lookup y = some (.own es) ∧ al' x = al y) ∨ s.heap.get? (al' x) = none
  alk : ∀ x, ¬ W x → al' x = al x
  kp : Kp s s'

section
variable {W : Str → Prop} {G : GC} {n : Nat} {sc : Scope} {en : Env} {V V' V'' V₀ : VM} {Z Z' Z'' Z₀ : Zm} {al al' al'' al₀ : Str → Addr} {h h' h'' h₀ : Heap} {s s' s'' s₀ s₁ : Shared} {A : Around} {E : Value → Shared → Prop}

theorem GoS.nope (g : GoS W en V Z al s V' Z' al' s') {a : Addr} (e : s'.heap.get? a = none) : s.heap.get? a = none := by
  cases e' : s.heap.get? a with
  | none => rfl
  | some o => obtain ⟨o', e''⟩ := g.dom a o e'; rw [e] at e''; cases e''
theorem GoS.refl : GoS W en V Z al s V Z al s := ⟨.refl Z, fun _ _ e => .inl e, fun _ _ e _ _ _ => e, fun _ o e => ⟨o, e⟩, fun x ds e => .inl ⟨x, ds, e, rfl⟩, fun _ _ => rfl, .refl _⟩
theorem Go.toS (g : Go en V Z al s V' Z' s') : GoS W en V Z al s V' Z' al s' :=
  ⟨g.z, g.zn, fun a o e w l _ => g.ke.obj a o e w l, g.ke.dom, fun x ds e => let ⟨es, e'⟩ := g.so x ds e; .inl ⟨x, es, e', rfl⟩, fun _ _ => rfl, g.kp⟩
theorem GoS.we (g : GoS W en V Z al s V' Z' al' s') {a : Addr} (w : WE V' al' a) : WE V al a ∨ s.heap.get? a = none := by
  obtain ⟨x, ds, e, rfl⟩ := w
  rcases g.own x ds e with ⟨y, es, e', e2⟩ | e'
  · exact .inl ⟨y, es, e', e2⟩
  · exact .inr e'
theorem GoS.trans (x : GoS W en V Z al s V' Z' al' s') (y : GoS W en V' Z' al' s' V'' Z'' al'' s'') : GoS W en V Z al s V'' Z'' al'' s'' where
  z := x.z.trans y.z
  zn := fun a o e => (y.zn a o e).elim (x.zn a o) fun e => e.elim (fun w => .inr (x.we w)) fun e => .inr (.inr (x.nope e))
  obj := fun a o e w l c => y.obj a o (x.obj a o e w l c) (fun w' => (x.we w').elim w fun e' => by rw [e] at e'; cases e') l c
  dom := fun a o e => let ⟨o', e'⟩ := x.dom a o e; y.dom a o' e'
  own := fun z ds e => by
    rcases y.own z ds e with ⟨u, es, e', e2⟩ | e'
    · rcases x.own u es e' with ⟨v, fs, e3, e4⟩ | e3
      · exact .inl ⟨v, fs, e3, e2.trans e4⟩
      · exact .inr (e2 ▸ e3)
    · exact .inr (x.nope e')
  alk := fun u hu => (y.alk u hu).trans (x.alk u hu)
  kp := x.kp.trans y.kp
theorem GoS.toks (g : GoS W en V Z al s V' Z' al' s') {t : Nat} : GoS W en V Z al s V' Z' al' { s' with toks := t } := ⟨g.z, g.zn, g.obj, g.dom, g.own, g.alk, g.kp⟩
def FlRep (Z : Zm) (h h' : Heap) : Flow → Fl → Prop
  | .next, .next => True
  | .brk, .brk => True
  | .cont, .cont => True
  | .ret v, .ret r => RRep Z h h' v r
  | _, _ => False
def SP (G : GC) (en : Env) (V : VM) (Z : Zm) (al : Str → Addr) (s : Shared) (Q : Fl → VM → Prop) (fl : Flow) (s' : Shared) : Prop :=
  ∃ Z' V' al' r, GoS (JW en) en V Z al s V' Z' al' s' ∧ St G en V' Z' al' s'.heap ∧ FlRep Z' s.heap s'.heap fl r ∧ Q r V'
theorem SP.pre {Q : Fl → VM → Prop} {fl : Flow} (g : GoS (JW en) en V Z al s V' Z' al' s₁) (h : SP G en V' Z' al' s₁ Q fl s') : SP G en V Z al s Q fl s' := by
  obtain ⟨Z'', V'', al'', r, g', st, rr, q⟩ := h
  refine ⟨Z'', V'', al'', r, g.trans g', st, ?_, q⟩
  cases fl <;> cases r <;> first | exact rr | skip
  rename_i v r
  cases r with
  | d d => exact rr
  | new ds => obtain ⟨a, rfl, hn, w⟩ := rr; exact ⟨a, rfl, g.nope hn, w⟩
def ExS (G : GC) (n : Nat) (sc : Scope) (t : Stmt) (V : VM) (Q : Fl → VM → Prop) : Prop :=
  ∀ en A E s Z al, EnvOk en sc → Rm A n → St G en V Z al s.heap → wpAny (model G.prog G.w) A (exec t en) (SP G en V Z al s Q) E s
def ExL (G : GC) (n : Nat) (sc : Scope) (t : List Stmt) (V : VM) (Q : Fl → VM → Prop) : Prop :=
  ∀ en A E s Z al, EnvOk en sc → Rm A n → St G en V Z al s.heap → wpAny (model G.prog G.w) A (execs t en) (SP G en V Z al s Q) E s

theorem ExL.useS {t : List Stmt} {Q : Fl → VM → Prop} (hq : ExL G n sc t V' Q) (ek : EnvOk en sc) (rm : Rm A n) (x : St G en V' Z' al' s₁.heap) (g : GoS (JW en) en V Z al s V' Z' al' s₁) :
    wpAny (model G.prog G.w) A (execs t en) (SP G en V Z al s Q) E s₁ :=
  wpAny_mono (hq en A E s₁ Z' al' ek rm x) (fun _ _ h => h.pre g) fun _ _ e => e
theorem exL_nil {Q : Fl → VM → Prop} (q : Q .next V) : ExL G n sc [] V Q :=
  fun en A E s Z al ek rm st => wpAny_execs_nil ⟨Z, V, al, .next, .refl, st, trivial, q⟩
theorem exL_cons {t : Stmt} {ts : List Stmt} {Q : Fl → VM → Prop} (hq : ExS G n sc t V (fun r V₁ => match r with | .next => ExL G n sc ts V₁ Q | r => Q r V₁)) : ExL G n sc (t :: ts) V Q :=
  fun en A E s Z al ek rm st => wpAny_execs_cons (wpAny_mono (hq en A E s Z al ek rm st) (fun fl s₁ hq4 => by
    obtain ⟨Z₁, V₁, al₁, r, g, x₁, rr, q⟩ := hq4
    cases fl <;> cases r <;> first | exact rr.elim | skip
    · exact q.useS ek rm x₁ g
    · exact ⟨Z₁, V₁, al₁, .brk, g, x₁, trivial, q⟩
    · exact ⟨Z₁, V₁, al₁, .cont, g, x₁, trivial, q⟩
    · exact ⟨Z₁, V₁, al₁, .ret _, g, x₁, rr, q⟩) fun _ _ e => e)
/-- the statement gives .next on every way -/
theorem exL_step {t : Stmt} {ts : List Stmt} {Q : Fl → VM → Prop} {P : VM → Prop} (hq : ExS G n sc t V (fun r V₁ => r = .next ∧ P V₁)) (k : ∀ V₁, P V₁ → ExL G n sc ts V₁ Q) : ExL G n sc (t :: ts) V Q :=
  exL_cons fun en A E s Z al ek rm st => wpAny_mono (hq en A E s Z al ek rm st) (fun fl s₁ hq3 => by obtain ⟨Z₁, V₁, al₁, r, g, x₁, rr, e, p⟩ := hq3; exact ⟨Z₁, V₁, al₁, r, g, x₁, rr, by subst e; exact k V₁ p⟩) fun _ _ e => e

theorem ns_unique {a : Addr} {m m' : Str → Option Value} (x : h.Ns a m) (y : h.Ns a m') : m = m' := by
  obtain ⟨o, es, ep, e, d, _, f⟩ := x
  obtain ⟨o', es', ep', e', d', _, f'⟩ := y
  rw [e] at e'; cases e'; rw [d] at d'; cases d'
  funext z; rw [← f z, ← f' z]

def isStore (sc : Scope) (x : Str) : Prop := (sc.names.lookup x = some .local ∨ sc.names.lookup x = some .cell) ∧ okJar sc x
theorem isStore.w {x : Str} (h : isStore sc x) (ek : EnvOk en sc) : JW en x := by unfold JW; rw [ek.scope]; exact h.2
theorem store_raw {x : Str} {v : Value} {P : Unit → Shared → Prop} (ek : EnvOk en sc) (hs : isStore sc x) (st : St G en V Z al s.heap)
    (k : ∀ h' tk t, Heap.SameBut t s.heap h' → (t = en.locals ∨ (en.kindOf x = some .cell ∧ en.cells.lookup x = some t)) → Loads en h' x v → (∀ y w, y ≠ x → Loads en s.heap y w → Loads en h' y w) → (∃ m, h'.Ns en.locals m) →
      (∀ y c, en.cells.lookup y = some c → ∃ u, h'.IsCell c u) → P () { s with heap := h', toks := tk }) : wpAny (model G.prog G.w) A (storeName en x v) P E s := by
  obtain ⟨m, hm⟩ := st.ns
  have cl : ∀ y c, en.cells.lookup y = some c → c ≠ en.locals := fun y c e ec => by
    obtain ⟨u, o, ho, hd⟩ := st.cell y c e
    obtain ⟨o', es, ep, ho', hd', _⟩ := hm
    rw [ec, ho'] at ho; cases ho; rw [hd] at hd'; cases hd'
  rcases hs.1 with hs | hs
  · have hl : en.kindOf x = some .local := by unfold Env.kindOf; rw [ek.scope]; exact hs
    refine wpAny_storeName_local hl hm (fun h' hn sb => k h' _ _ sb (.inl rfl) (.inl ⟨hl, _, hn, by simp⟩) (fun y w hy l => ?_) ⟨_, hn⟩ fun y c e => ?_) (by rw [ek.scope, ek.kind]; rfl)
    · rcases l with ⟨e, m', hm', hw⟩ | ⟨e, c, hc, hv⟩
      · refine .inl ⟨e, _, hn, ?_⟩
        rw [ns_unique hm hm']; simp [hy, hw]
      · obtain ⟨o, ho, hd⟩ := hv
        exact .inr ⟨e, c, hc, o, (sb.2 c (cl y c hc)).trans ho, hd⟩
    · obtain ⟨u, o, ho, hd⟩ := st.cell y c e
      exact ⟨u, o, (sb.2 c (cl y c e)).trans ho, hd⟩
  · have hl : en.kindOf x = some .cell := by unfold Env.kindOf; rw [ek.scope]; exact hs
    obtain ⟨c, hc⟩ := ek.cells x (.inl hs)
    obtain ⟨u, hu⟩ := st.cell x c hc
    refine wpAny_storeName_cell (by rw [ek.scope]; exact ek.kind) hl hc hu fun h' hcell sb => k h' s.toks _ sb (.inr ⟨hl, hc⟩) (.inr ⟨.inl hl, c, hc, hcell⟩) (fun y w hy l => ?_) ?_ fun y c' e => ?_
    · rcases l with ⟨e, m', hm', hw⟩ | ⟨e, c', hc', hv⟩
      · refine .inl ⟨e, m', ?_, hw⟩
        exact hm'.sameBut sb (Ne.symm (cl x c hc))
      · obtain ⟨o, ho, hd⟩ := hv
        exact .inr ⟨e, c', hc', o, (sb.2 c' (fun ec => hy (st.cinj y x c (ec ▸ hc') hc))).trans ho, hd⟩
    · exact ⟨m, hm.sameBut sb (Ne.symm (cl x c hc))⟩
    · by_cases hec : c' = c
      · rw [hec]; exact ⟨_, hcell⟩
      · obtain ⟨u', o, ho, hd⟩ := st.cell y c' e
        exact ⟨u', o, (sb.2 c' hec).trans ho, hd⟩

/-- a value that waits to be stored: h₀ is where the statement began -/
def Pend (Z : Zm) (V : VM) (al : Str → Addr) (h₀ h : Heap) (v : Value) : R → Prop
  | .d d => Rep Z d v
  | .new ds => ∃ a, v = .ref a ∧ h₀.get? a = none ∧ Own Z h a ds ∧ ∀ y es, V.lookup y = some (.own es) → al y ≠ a
theorem store_core {x : Str} {v : Value} {r : R} {P : Unit → Shared → Prop} (ek : EnvOk en sc) (hs : isStore sc x) (hW : W x) (g : GoS W en V₀ Z₀ al₀ s₀ V Z al s) (st : St G en V Z al s.heap) (pd : Pend Z V al s₀.heap s.heap v r)
    (k : ∀ h' tk al', GoS W en V₀ Z₀ al₀ s₀ (setV V x r.val) Z al' { s with heap := h', toks := tk } → St G en (setV V x r.val) Z al' h' →
      (∀ b o, s.heap.get? b = some o → ((∃ xs m, o.data = .seq xs m) ∨ (b ≠ en.locals ∧ ∀ y, en.cells.lookup y ≠ some b)) → h'.get? b = some o) → (∀ y es, (setV V x r.val).lookup y = some (.own es) → (∃ z fs, V.lookup z = some (.own fs) ∧ al' y = al z) ∨ v = .ref (al' y)) → ((∃ d, r = .d d) → al' = al) → P () { s with heap := h', toks := tk }) :
    wpAny (model G.prog G.w) A (storeName en x v) P E s := by
  refine store_raw ek hs st fun h' tk t sb ht lx ly hns hcell => ?_
  have tz : Z t = none := by
    rcases ht with rfl | ⟨_, hc⟩
    · exact st.zl
    · exact st.zc x t hc
  have tseq : ∀ o, s.heap.get? t = some o → ∀ xs m, o.data ≠ .seq xs m := fun o ho xs m hd => by
    rcases ht with rfl | ⟨_, hc⟩
    · obtain ⟨m', o', es, ep, ho', hd', _⟩ := st.ns
      rw [ho] at ho'; cases ho'; rw [hd] at hd'; cases hd'
    · obtain ⟨u, o', ho', hd'⟩ := st.cell x t hc
      rw [ho] at ho'; cases ho'; rw [hd] at hd'; cases hd'
  have keep : ∀ b o, s.heap.get? b = some o → (∃ xs m, o.data = .seq xs m) → h'.get? b = some o := fun b o e ⟨xs, m, hd⟩ => by
    refine (sb.2 b fun eb => ?_).trans e
    exact tseq o (eb ▸ e) xs m hd
  have keepOwn : ∀ a ds, Own Z s.heap a ds → Own Z h' a ds := fun a ds ⟨z, vs, m, ho, r⟩ => ⟨z, vs, m, keep a _ ho ⟨_, _, rfl⟩, r⟩
  -- the addresses of the lists
  obtain ⟨al', hal, halx, hsame⟩ : ∃ al' : Str → Addr, (∀ y, y ≠ x → al' y = al y) ∧ (∀ ds, r = .new ds → v = .ref (al' x)) ∧ ((∃ d, r = .d d) → al' = al) := by
    cases r with
    | d d => exact ⟨al, fun _ _ => rfl, fun _ e => (by cases e), fun _ => rfl⟩
    | new ds =>
      obtain ⟨a, rfl, _⟩ := pd
      exact ⟨fun y => if y = x then a else al y, fun y hy => by simp [hy], fun _ _ => (by simp), fun ⟨d, e⟩ => (by cases e)⟩
  have look : ∀ y u, (setV V x r.val).lookup y = some u → (y = x ∧ u = r.val) ∨ (y ≠ x ∧ V.lookup y = some u) := fun y u e => by
    rw [lookup_setV] at e
    by_cases hy : y = x
    · rw [if_pos hy] at e; exact .inl ⟨hy, (Option.some.inj e).symm⟩
    · rw [if_neg hy] at e; exact .inr ⟨hy, e⟩
  have hownx : ∀ ds, r.val = .own ds → r = .new ds := fun ds e => by cases r <;> cases e; rfl
  refine k h' tk al' ?_ ?_ (fun b o e hb => hb.elim (keep b o e) fun hb => (sb.2 b fun eb => ht.elim (fun e => hb.1 (eb.trans e)) fun h => hb.2 x (eb ▸ h.2)).trans e) ?_ hsame
  · refine ⟨g.z, g.zn, fun a o e w l c => ?_, fun a o e => ?_, fun y ds e => ?_, fun y hy => (hal y (fun e => hy (e ▸ hW))).trans (g.alk y hy), g.kp⟩
    · have e1 := g.obj a o e w l c
      refine (sb.2 a fun ea => ?_).trans e1
      rcases ht with rfl | ⟨hk, hc⟩
      · exact l ea
      · exact c x hW hk (ea ▸ hc)
    · obtain ⟨o', e'⟩ := g.dom a o e
      by_cases ea : a = t
      · rcases ht with rfl | ⟨hk, hc⟩
        · obtain ⟨m, o'', es, ep, ho', _⟩ := hns
          exact ⟨o'', ea ▸ ho'⟩
        · obtain ⟨u, o'', ho', _⟩ := hcell x t hc
          exact ⟨o'', ea ▸ ho'⟩
      · exact ⟨o', (sb.2 a ea).trans e'⟩
    · rcases look y _ e with ⟨rfl, eu⟩ | ⟨hy, e⟩
      · have er := hownx ds eu.symm
        subst er
        obtain ⟨a, ea, hn, _⟩ := pd
        have := halx ds rfl
        rw [ea] at this; cases this
        exact .inr hn
      · rcases g.own y ds e with ⟨z, es, e', e2⟩ | e'
        · exact .inl ⟨z, es, e', (hal y hy).trans e2⟩
        · exact .inr (by rw [hal y hy]; exact e')
  · refine { base := st.base, fz := fun a o e => (sb.2 a fun ea => by rw [ea, tz] at e; cases e).trans (st.fz a o e), ns := hns, zl := st.zl, cell := hcell, zc := st.zc, cinj := st.cinj, val := fun y d e => ?_, own := fun y ds e => ?_, inj := fun y z ds es e e' ea => ?_ }
    · rcases look y _ e with ⟨rfl, eu⟩ | ⟨hy, e⟩
      · have er : r = .d d := by cases r <;> cases eu; rfl
        subst er
        exact ⟨v, lx, pd⟩
      · obtain ⟨w, l, r'⟩ := st.val y d e
        exact ⟨w, ly y w hy l, r'⟩
    · rcases look y _ e with ⟨rfl, eu⟩ | ⟨hy, e⟩
      · have er := hownx ds eu.symm
        subst er
        have ev := halx ds rfl
        obtain ⟨a, ea, hn, w, _⟩ := pd
        rw [ea] at ev; cases ev
        exact ⟨ea ▸ lx, keepOwn _ _ w⟩
      · obtain ⟨l, w⟩ := st.own y ds e
        rw [hal y hy]
        exact ⟨ly y _ hy l, keepOwn _ _ w⟩
    · rcases look y _ e with ⟨ey, eu⟩ | ⟨hy, e1⟩ <;> rcases look z _ e' with ⟨ez, eu'⟩ | ⟨hz, e2⟩
      · rw [ey, ez]
      · have er := hownx ds eu.symm
        subst er
        have ev := halx ds rfl
        obtain ⟨a, ea', hn, w, nd⟩ := pd
        rw [ea'] at ev; cases ev
        rw [ey, hal z hz] at ea
        exact absurd ea.symm (nd z es e2)
      · have er := hownx es eu'.symm
        subst er
        have ev := halx es rfl
        obtain ⟨a, ea', hn, w, nd⟩ := pd
        rw [ea'] at ev; cases ev
        rw [ez, hal y hy] at ea
        exact absurd ea (nd y ds e1)
      · rw [hal y hy, hal z hz] at ea
        exact st.inj y z ds es e1 e2 ea
  · intro y es e
    rcases look y _ e with ⟨rfl, eu⟩ | ⟨hy, e⟩
    · exact .inr (halx es (hownx es eu.symm))
    · exact .inl ⟨y, es, e, hal y hy⟩
theorem RRep.pend {v : Value} {r : R} (x₀ : St G en V₀ Z₀ al s₀.heap) (g : Go en V₀ Z₀ al s₀ V Z s) (rr : RRep Z s₀.heap s.heap v r) : Pend Z V al s₀.heap s.heap v r := by
  cases r with
  | d d => exact rr
  | new ds =>
    obtain ⟨a, rfl, hn, w⟩ := rr
    refine ⟨a, rfl, hn, w, fun y es e ea => ?_⟩
    obtain ⟨es', e'⟩ := g.so y es e
    obtain ⟨_, _, vs', n', ho', _⟩ := x₀.own y es' e'
    rw [ea, hn] at ho'; cases ho'

def notComp : Expr → Bool
  | .ListComp .. | .SetComp .. | .DictComp .. => false
  | _ => true
theorem swaps_no {e : Expr} {t : Option Expr} {l : Nat} (h : notComp e = true) : swapsWith e t l en = pure false := by
  cases e <;> first | rfl | cases h
theorem ex_assign {x : Str} {px p : Pos} {e : Expr} {Q : Fl → VM → Prop} (hs : isStore sc x) (hc : notComp e = true) (hq : EvQ G n sc e V (fun r V₁ => Q .next (setV V₁ x r.val))) : ExS G n sc (.Assign [.Name x px] e p) V Q :=
  fun en A E s Z al ek rm st => wpAny_Assign_Name (wpAny_mono (hq en A E s Z al ek rm st) (fun v s₁ hq2 => by
   obtain ⟨Z₁, V₁, r, g₁, x₁, rr, q⟩ := hq2
   exact
    store_core ek hs (hs.w ek) g₁.toS x₁ (rr.pend st g₁) fun h' tk al' g' st' _ _ _ => ⟨Z₁, _, al', .next, g', st', trivial, q⟩) fun _ _ e => e) (swaps_no hc)
theorem ex_return {p : Pos} {e : Expr} {Q : Fl → VM → Prop} (hq : EvQ G n sc e V (fun r V₁ => Q (.ret r) V₁)) : ExS G n sc (.Return (some e) p) V Q :=
  fun en A E s Z al ek rm st => wpAny_Return_some (wpAny_mono (hq en A E s Z al ek rm st) (fun v s₁ hq1 => by obtain ⟨Z₁, V₁, r, g₁, x₁, rr, q⟩ := hq1; exact ⟨Z₁, V₁, al, .ret r, g₁.toS, x₁, rr, q⟩) fun _ _ e => e)
theorem ex_if {t : Expr} {b o : List Stmt} {p : Pos} {Q : Fl → VM → Prop} (hq : CoQ G n sc t V (fun c V₁ => if c = true then ExL G n sc b V₁ Q else ExL G n sc o V₁ Q)) : ExS G n sc (.If t b o p) V Q :=
  fun en A E s Z al ek rm st => wpAny_If (CoQ.use hq ek rm st fun v s₁ Z₁ V₁ g₁ x₁ q => by
    cases v with
    | true => exact ExL.useS q ek rm x₁ g₁.toS
    | false => exact ExL.useS q ek rm x₁ g₁.toS)
/-- x += e, of ints -/
theorem ex_aug {x : Str} {px p : Pos} {e : Expr} {i : Int} {Q : Fl → VM → Prop} (hs : isStore sc x) (hv : V.lookup x = some (.d (.int i)))
    (hq : EvQ G n sc e V (fun r V₁ => ∃ j, r = .d (.int j) ∧ Q .next (setV V₁ x (.d (.int (i + j)))))) (hn : okName x = true := by decide) : ExS G n sc (.AugAssign (.Name x px) .Add e p) V Q :=
  fun en A E s Z al ek rm st => by
    obtain ⟨v, l, t, rfl⟩ := st.val x _ hv
    refine wpAny_AugAssign_Name (load_var ek l (wpAny_mono (hq en A E s Z al ek rm st) (fun w s₁ hr1 => ?_) fun _ _ e => e) (okCls hn))
    obtain ⟨Z₁, V₁, r, g₁, x₁, rr, j, er, q⟩ := hr1
    subst er
    obtain ⟨u, rfl⟩ := rr
    refine PySem.P.iadd_int ?_
    exact store_core (r := .d (.int (i + j))) (s := { s₁ with toks := s₁.toks + 1 }) ek hs (hs.w ek) g₁.toS.toks x₁ (show Rep Z₁ (.int (i + j)) _ from ⟨_, rfl⟩) fun h' tk al' g' st' _ _ _ => ⟨Z₁, _, al', .next, g', st', trivial, q⟩
theorem mapSeq_set (vs : List Value) (k : Nat) (v : Value) (m : Nat) : ∃ m', Obj.mapSeq (·.setIfInBounds k v) (Lo vs m) = Lo (vs.set k v) m' := by
  have e : vs.toArray.setIfInBounds k v = (vs.set k v).toArray := List.setIfInBounds_toArray ..
  have : ∀ N, ({ cls := .type "list", dict := none, data := .seq (vs.toArray.setIfInBounds k v) N, slots := #[] } : Obj) = Lo (vs.set k v) N := fun N => by rw [e]
  exact ⟨_, this _⟩
end
end Mine
end

section
open PySem PySem.W PyProof.Rows PySem.Calls
namespace Mine
section
variable {W : Str → Prop} {G : GC} {n : Nat} {sc : Scope} {en : Env} {V V' V'' V₀ : VM} {Z Z' Z'' Z₀ : Zm} {al al' al'' al₀ : Str → Addr} {h h' h'' h₀ : Heap} {s s' s'' s₀ s₁ : Shared} {A : Around} {E : Value → Shared → Prop}

-- many stores
def setVs : VM → List (Str × R) → VM
  | V, [] => V
  | V, (x, r) :: l => setVs (setV V x r.val) l
def isNew : R → Prop
  | .d _ => False
  | .new _ => True
structure PendL (Z : Zm) (V : VM) (al : Str → Addr) (h₀ h : Heap) (l : List (Value × R)) : Prop where
  each : ∀ p ∈ l, Pend Z V al h₀ h p.1 p.2
  apart : l.Pairwise fun p q => isNew p.2 → isNew q.2 → p.1 ≠ q.1
theorem PendL.reverse {l : List (Value × R)} (p : PendL Z V al h₀ h l) : PendL Z V al h₀ h l.reverse :=
  ⟨fun x hx => p.each x (List.mem_reverse.mp hx), List.pairwise_reverse.mpr (p.apart.imp fun h a b e => h b a e.symm)⟩
theorem Pend.seqKeep {v : Value} {r : R} (p : Pend Z V al h₀ h v r) (k : ∀ b o, h.get? b = some o → (∃ xs m, o.data = .seq xs m) → h'.get? b = some o) : Pend Z V al h₀ h' v r := by
  cases r with
  | d d => exact p
  | new ds =>
    obtain ⟨a, rfl, hn, ⟨z, vs, m, ho, rs⟩, nd⟩ := p
    exact ⟨a, rfl, hn, ⟨z, vs, m, k a _ ho ⟨_, _, rfl⟩, rs⟩, nd⟩
theorem PendL.keeps {l : List (Value × R)} (p : PendL Z V al h₀ h l) (k : ∀ b o, h.get? b = some o → h'.get? b = some o) : PendL Z V al h₀ h' l :=
  ⟨fun x hx => (p.each x hx).seqKeep fun b o e _ => k b o e, p.apart⟩

def StoreFs (G : GC) (A : Around) (en : Env) : List (Value → Sem Unit) → List Str → Prop
  | [], [] => True
  | f :: fs, x :: xs => (∀ E v (P : Unit → Shared → Prop) (s : Shared), wpAny (model G.prog G.w) A (storeName en x v) P E s → wpAny (model G.prog G.w) A (f v) P E s) ∧ StoreFs G A en fs xs
  | _, _ => False
theorem stores (ek : EnvOk en sc) :
    ∀ (fs : List (Value → Sem Unit)) (xs : List Str) (l : List (Value × R)) (V : VM) (al : Str → Addr) (s : Shared) (P : Unit → Shared → Prop), StoreFs G A en fs xs → xs.length = l.length → (∀ x ∈ xs, isStore sc x) → (∀ x ∈ xs, W x) → GoS W en V₀ Z₀ al₀ s₀ V Z al s → St G en V Z al s.heap → PendL Z V al s₀.heap s.heap l →
      (∀ h' tk al', GoS W en V₀ Z₀ al₀ s₀ (setVs V (xs.zip (l.map (·.2)))) Z al' { s with heap := h', toks := tk } → St G en (setVs V (xs.zip (l.map (·.2)))) Z al' h' → ((∀ p ∈ l, ∃ d, p.2 = .d d) → al' = al) → P () { s with heap := h', toks := tk }) →
      wpAny (model G.prog G.w) A (assignInOrder fs (l.map (·.1))) P E s
  | [], [], [], V, al, s, P, _, _, _, _, g, st, _, k => wpAny_pure (k s.heap s.toks al g st fun _ => rfl)
  | f :: fs, x :: xs, (v, r) :: l, V, al, s, P, hf, hl, hx, hW, g, st, pl, k => by
    refine wpAny_assignInOrder_more (hf.1 _ v _ _ ?_)
    refine store_core ek (hx x List.mem_cons_self) (hW x List.mem_cons_self) g st (pl.each (v, r) List.mem_cons_self) fun h' tk al' g' st' kp ow sm => ?_
    have pw := List.pairwise_cons.mp pl.apart
    refine stores ek fs xs l _ al' _ P hf.2 (by simpa using hl) (fun y hy => hx y (List.mem_cons_of_mem _ hy)) (fun y hy => hW y (List.mem_cons_of_mem _ hy)) g' st' ⟨fun p hp => ?_, pw.2⟩ fun h'' tk'' al'' g'' st'' sm' => k h'' tk'' al'' g'' st'' fun hd => (sm' fun p hp => hd p (List.mem_cons_of_mem _ hp)).trans (sm (hd (v, r) List.mem_cons_self))
    have q := (pl.each p (List.mem_cons_of_mem _ hp)).seqKeep fun b o e h => kp b o e (.inl h)
    obtain ⟨w, r'⟩ := p
    cases r' with
    | d d => exact q
    | new ds =>
      obtain ⟨a, rfl, hn, w, nd⟩ := q
      refine ⟨a, rfl, hn, w, fun y es e ea => ?_⟩
      rcases ow y es e with ⟨z, fs, e2, e3⟩ | ev
      · exact nd z fs e2 (e3 ▸ ea)
      · have hnew : isNew r := by
          cases r with
          | d d =>
            -- v would bear a frozen thing at an own list
            rw [lookup_setV] at e
            by_cases hy : y = x
            · rw [if_pos hy] at e; cases e
            · exfalso
              rw [if_neg hy] at e
              have hd : Rep Z d v := pl.each (v, .d d) List.mem_cons_self
              rw [ev] at hd
              have hz : Z (al' y) = none := (st'.own y es (by rw [lookup_setV, if_neg hy]; exact e)).2.1
              cases d with
              | bool b => exact absurd hd (by simp [Rep])
              | non => exact absurd hd (by simp [Rep])
              | int i => obtain ⟨t, ht⟩ := hd; cases ht
              | list xs => obtain ⟨a', vs', ea', ⟨o', n', e', _⟩, _⟩ := hd; cases ea'; rw [hz] at e'; cases e'
              | tup xs => obtain ⟨a', vs', ea', ⟨o', n', e', _⟩, _⟩ := hd; cases ea'; rw [hz] at e'; cases e'
          | new ds => trivial
        exact pw.1 _ hp hnew trivial (by rw [ev, ea])
  | [], _ :: _, _, _, _, _, _, hf, _, _, _, _, _, _, _ => hf.elim
  | _ :: _, [], _, _, _, _, _, hf, _, _, _, _, _, _, _ => hf.elim
  | [], [], _ :: _, _, _, _, _, _, hl, _, _, _, _, _, _ => by simp at hl
  | _ :: _, _ :: _, [], _, _, _, _, _, hl, _, _, _, _, _, _ => by simp at hl

def namesOf : List Expr → Option (List Str)
  | [] => some []
  | .Name x _ :: es => (namesOf es).map (x :: ·)
  | _ => none
theorem namesOf_fs : ∀ {es : List Expr} {xs : List Str}, namesOf es = some xs → (assignEach es en).length = xs.length ∧ (assignEach es en).findIdx? (·.1) = none ∧ StoreFs G A en ((assignEach es en).map (·.2)) xs
  | [], xs, h => by cases h; exact ⟨rfl, rfl, trivial⟩
  | e :: es, xs, h => by
    cases e <;> try cases h
    rename_i x p
    unfold namesOf at h
    obtain ⟨ys, hy, rfl⟩ := Option.map_eq_some_iff.mp h
    obtain ⟨h1, h2, h3⟩ := namesOf_fs hy
    refine ⟨by show (assignEach es en).length + 1 = _; rw [h1]; rfl, ?_, fun E v P s w => wpAny_assign_Name w, h3⟩
    show ((false, assign (.Name x p) en) :: assignEach es en).findIdx? (·.1) = none
    rw [List.findIdx?_cons]; simp [h2]
theorem swap_fs : ∀ xs : List Str, StoreFs G A en (xs.map fun n => bindName en n) xs
  | [] => trivial
  | x :: xs => ⟨fun E v P s w => wpAny_bindName w, swap_fs xs⟩

-- expressions whose new lists wait
def EvN (G : GC) (n : Nat) (sc : Scope) : List Expr → VM → (List R → VM → Prop) → Prop
  | [], V, Q => Q [] V
  | e :: es, V, Q => notStar e = true ∧ EvQ G n sc e V (fun r V₁ => EvN G n sc es V₁ (fun rs V₂ => Q (r :: rs) V₂))
def NP (G : GC) (en : Env) (V : VM) (Z : Zm) (al : Str → Addr) (s : Shared) (Q : List R → VM → Prop) (vs : List Value) (s' : Shared) : Prop :=
  ∃ Z' V' l, Go en V Z al s V' Z' s' ∧ St G en V' Z' al s'.heap ∧ PendL Z' V' al s.heap s'.heap l ∧ vs = l.map (·.1) ∧ Q (l.map (·.2)) V'
theorem Pend.go {v : Value} {r : R} (x : St G en V Z al s.heap) (p : Pend Z V al h₀ s.heap v r) (hx : ∀ a, h₀.get? a = none → True) (g : Go en V Z al s V' Z' s') : Pend Z' V' al h₀ s'.heap v r := by
  cases r with
  | d d => exact Rep.mono g.z p
  | new ds =>
    obtain ⟨a, rfl, hn, ⟨z, vs, m, ho, rs⟩, nd⟩ := p
    have nw : ¬ WE V al a := fun ⟨y, es, e, ea⟩ => nd y es e ea.symm
    have nl : a ≠ en.locals := fun ea => by
      obtain ⟨mm, o', es, ep, ho', hd', _⟩ := x.ns
      rw [← ea, ho] at ho'; cases ho'; cases hd'
    refine ⟨a, rfl, hn, ⟨?_, vs, m, g.ke.obj a _ ho nw nl, rs.mono g.z⟩, fun y es e ea => ?_⟩
    · cases e : Z' a with
      | none => rfl
      | some o =>
        rcases g.zn a o e with e | e | e
        · rw [z] at e; cases e
        · exact (nw e).elim
        · rw [ho] at e; cases e
    · obtain ⟨fs, e'⟩ := g.so y es e
      exact nd y fs e' ea
theorem Pend.base {v : Value} {r : R} (g : ∀ a, h₀.get? a = none → h.get? a = none) (p : Pend Z V al h₀ h' v r) : Pend Z V al h h' v r := by
  cases r with
  | d d => exact p
  | new ds => obtain ⟨a, rfl, hn, w⟩ := p; exact ⟨a, rfl, g a hn, w⟩
theorem EvN.sound : ∀ {es : List Expr} {V : VM} {Z : Zm} {s : Shared} {pos : Pos} {Q : List R → VM → Prop}, EvN G n sc es V Q → EnvOk en sc → Rm A n → St G en V Z al s.heap →
    wpAny (model G.prog G.w) A (spliced (backTo pos (starEach es en))) (NP G en V Z al s Q) E s
  | [], V, Z, s, pos, Q, hq, ek, rm, x => spliced_nil ⟨Z, V, [], .refl .., x, ⟨fun _ h => (nomatch h), .nil⟩, rfl, hq⟩
  | e :: es, V, Z, s, pos, Q, hq, ek, rm, x => by
    rw [starEach_cons hq.1]
    show wpAny _ A (spliced ((false, eval e en) :: backTo pos (starEach es en))) _ E s
    refine spliced_cons (wpAny_mono (hq.2 en A E s Z al ek rm x) (fun v s₁ hr1 => ?_) fun _ _ e => e)
    obtain ⟨Z₁, V₁, r, g₁, x₁, rr, h₁⟩ := hr1
    refine wpAny_mono (EvN.sound h₁ ek rm x₁) (fun vs s₂ hr2 => ?_) fun _ _ e => e
    obtain ⟨Z₂, V₂, l, g₂, x₂, pl, ev, q⟩ := hr2
    have p₁ := (rr.pend x g₁).go x₁ (fun _ _ => trivial) g₂
    refine ⟨Z₂, V₂, (v, r) :: l, g₁.trans g₂, x₂, ⟨fun p hp => ?_, List.pairwise_cons.mpr ⟨fun p hp hn hn' e => ?_, pl.apart⟩⟩, by rw [ev]; rfl, q⟩
    · rcases List.mem_cons.mp hp with rfl | hp
      · exact p₁
      · exact (pl.each p hp).base fun a => g₁.ke.none
    · have q' := pl.each p hp
      obtain ⟨w, r'⟩ := p
      cases r with
      | d d => exact hn
      | new ds =>
        cases r' with
        | d d => exact hn'
        | new ds' =>
          obtain ⟨a, rfl, _, ⟨_, vs', m', ho, _⟩⟩ := rr
          obtain ⟨b, rfl, hb, _⟩ := q'
          cases e; rw [ho] at hb; cases hb

theorem ex_tup_plain {elts es : List Expr} {k k' : Nat} {tp p p' : Pos} {xs : List Str} {Q : Fl → VM → Prop} (hx : namesOf elts = some xs) (hs : ∀ x ∈ xs, isStore sc x)
    (hw : ∀ en, en.scope = sc → swappedStores [.Tuple elts k tp] (.Tuple es k' p') en = pure none)
    (hq : EvN G n sc es V (fun rs V₁ => (rs.length = xs.length ∧ rs.length ≤ 2 ^ 20) ∧ Q .next (setVs V₁ (xs.zip rs)))) : ExS G n sc (.Assign [.Tuple elts k tp] (.Tuple es k' p') p) V Q :=
  fun en A E s Z al ek rm st => Assign_Tuple (wpAny_Tuple (wpAny_mono (hq.sound ek rm st) (fun vs s₁ hs3 => by
    obtain ⟨Z₁, V₁, l, g₁, x₁, pl, ev, ⟨hl, hsz⟩, q⟩ := hs3
    refine ⟨by rw [ev, List.length_map, sizeLine_eq]; rw [List.length_map] at hsz; lia, ?_⟩
    obtain ⟨h1, h2, h3⟩ := namesOf_fs (G := G) (A := A) (en := en) hx
    have k1 : ∀ b o, s₁.heap.get? b = some o → (s₁.heap.push { cls := .type "tuple", data := .seq vs.toArray }).get? b = some o := fun b o e => Heap.get?_push_of_some _ e
    have hT : (s₁.heap.push { cls := .type "tuple", data := .seq vs.toArray }).IsTuple s₁.heap.objs.size vs.toArray := ⟨_, Heap.get?_push_size _ rfl, rfl, 0, rfl⟩
    refine wpAny_assign_Tuple (s := { s₁ with heap := s₁.heap.push { cls := .type "tuple", data := .seq vs.toArray } }) rm.1 hT (by rw [h1, List.size_toArray, ev, List.length_map]; rw [List.length_map] at hl; exact hl.symm) h2 fun h' xb => ?_
    have k2 : ∀ b o, s₁.heap.get? b = some o → h'.get? b = some o := fun b o e => xb b o (by
      intro eb; have := Heap.lt_size e; rw [eb] at this
      exact absurd this (by rw [show ({ s₁ with heap := s₁.heap.push { cls := .type "tuple", data := .seq vs.toArray } } : Shared).heap.objs.size = s₁.heap.objs.size + 1 from Heap.size_push ..]; exact Nat.not_lt.mpr (Nat.le_succ _))) (k1 b o e)
    rw [show vs.toArray.toList = l.map (·.1) by rw [ev]]
    have g2 : Go en V₁ Z₁ al s₁ V₁ Z₁ { s₁ with heap := h' } := .of_keeps k2
    exact stores ek _ xs l V₁ al _ _ h3 (by rw [List.length_map] at hl; exact hl.symm) hs (fun x hx => (hs x hx).w ek) (g₁.trans g2).toS (x₁.keeps k2) (pl.keeps k2) fun h'' tk al' g' st' _ => ⟨Z₁, _, al', .next, g', st', trivial, q⟩) fun _ _ e => e)) rfl (hw en ek.scope)
theorem ex_tup_swap {elts es : List Expr} {k k' : Nat} {tp p p' : Pos} {xs : List Str} {Q : Fl → VM → Prop} (hx : namesOf elts = some xs) (hs : ∀ x ∈ xs, isStore sc x)
    (hw : ∀ en, en.scope = sc → swappedStores [.Tuple elts k tp] (.Tuple es k' p') en = pure (some xs))
    (hq : EvN G n sc es V (fun rs V₁ => (rs.length = xs.length ∧ rs.length ≤ 2 ^ 20) ∧ Q .next (setVs V₁ (xs.reverse.zip rs.reverse)))) : ExS G n sc (.Assign [.Tuple elts k tp] (.Tuple es k' p') p) V Q :=
  fun en A E s Z al ek rm st => Assign_Tuple_swapped (wpAny_Tuple (wpAny_mono (hq.sound ek rm st) (fun vs s₁ hs2 => by
    obtain ⟨Z₁, V₁, l, g₁, x₁, pl, ev, ⟨hl, hsz⟩, q⟩ := hs2
    refine ⟨by rw [ev, List.length_map, sizeLine_eq]; rw [List.length_map] at hsz; lia, ?_⟩
    have k1 : ∀ b o, s₁.heap.get? b = some o → (s₁.heap.push { cls := .type "tuple", data := .seq vs.toArray }).get? b = some o := fun b o e => Heap.get?_push_of_some _ e
    have hT : (s₁.heap.push { cls := .type "tuple", data := .seq vs.toArray }).IsTuple s₁.heap.objs.size vs.toArray := ⟨_, Heap.get?_push_size _ rfl, rfl, 0, rfl⟩
    have hll : xs.length = vs.toArray.size := by rw [List.size_toArray, ev, List.length_map]; rw [List.length_map] at hl; exact hl.symm
    rw [hll]
    refine wpAny_unpackItems_tuple (s := { s₁ with heap := s₁.heap.push { cls := .type "tuple", data := .seq vs.toArray } }) rm.1 hT fun h' xb => ?_
    have k2 : ∀ b o, s₁.heap.get? b = some o → h'.get? b = some o := fun b o e => xb b o (by
      intro eb; have := Heap.lt_size e; rw [eb] at this
      exact absurd this (by rw [show ({ s₁ with heap := s₁.heap.push { cls := .type "tuple", data := .seq vs.toArray } } : Shared).heap.objs.size = s₁.heap.objs.size + 1 from Heap.size_push ..]; exact Nat.not_lt.mpr (Nat.le_succ _))) (k1 b o e)
    have e3 : vs.toArray.toList.reverse = l.reverse.map (·.1) := by rw [ev]; simp
    rw [e3]
    have g2 : Go en V₁ Z₁ al s₁ V₁ Z₁ { s₁ with heap := h' } := .of_keeps k2
    refine stores ek _ xs.reverse l.reverse V₁ al _ _ (swap_fs _) (by rw [List.length_map] at hl; simp [hl]) (fun x hx => hs x (List.mem_reverse.mp hx)) (fun x hx => (hs x (List.mem_reverse.mp hx)).w ek) (g₁.trans g2).toS (x₁.keeps k2) (pl.keeps k2).reverse fun h'' tk al' g' st' _ => ⟨Z₁, _, al', .next, g', st', trivial, ?_⟩
    rw [List.map_reverse]; exact q) fun _ _ e => e)) rfl (hw en ek.scope)
/-- a tuple that an expression gives, unpacked -/
theorem ex_unpack {elts : List Expr} {e : Expr} {k : Nat} {tp p : Pos} {xs : List Str} {Q : Fl → VM → Prop} (hx : namesOf elts = some xs) (hs : ∀ x ∈ xs, isStore sc x)
    (hc : ∀ en, swapsWithSole [.Tuple elts k tp] e p.line en = pure false) (hw : ∀ en, swappedStores [.Tuple elts k tp] e en = pure none)
    (hq : EvQ G n sc e V (fun r V₁ => ∃ ds, (r = .d (.tup ds) ∧ ds.length = xs.length) ∧ Q .next (setVs V₁ (xs.zip (ds.map R.d))))) : ExS G n sc (.Assign [.Tuple elts k tp] e p) V Q :=
  fun en A E s Z al ek rm st => Assign_Tuple (wpAny_mono (hq en A E s Z al ek rm st) (fun v s₁ hs1 => by
    obtain ⟨Z₁, V₁, r, g₁, x₁, rr, ds, ⟨er, hl⟩, q⟩ := hs1
    subst er
    obtain ⟨a, vs, rfl, z, rs⟩ := rr
    obtain ⟨h1, h2, h3⟩ := namesOf_fs (G := G) (A := A) (en := en) hx
    have hT := z.tuple x₁
    refine wpAny_assign_Tuple rm.1 hT (by rw [h1, List.size_toArray, rs.len]; exact hl.symm) h2 fun h' xb => ?_
    have k2 : ∀ b o, s₁.heap.get? b = some o → h'.get? b = some o := fun b o e => xb b o (fun eb => by have := Heap.lt_size e; rw [eb] at this; exact Nat.lt_irrefl _ this) e
    have g2 : Go en V₁ Z₁ al s₁ V₁ Z₁ { s₁ with heap := h' } := .of_keeps k2
    have e1 : (vs.zip (ds.map R.d)).map (·.1) = vs := by rw [List.map_fst_zip]; rw [List.length_map, rs.len]; exact Nat.le_refl _
    have e2 : (vs.zip (ds.map R.d)).map (·.2) = ds.map R.d := by rw [List.map_snd_zip]; rw [List.length_map, rs.len]; exact Nat.le_refl _
    have pl : PendL Z₁ V₁ al s.heap h' (vs.zip (ds.map R.d)) := by
      have : ∀ {vs : List Value} {ds : List D}, Reps Z₁ ds vs → PendL Z₁ V₁ al s.heap h' (vs.zip (ds.map R.d)) := by
        intro vs ds
        induction ds generalizing vs with
        | nil => intro r; rw [show vs = [] from r]; exact ⟨fun _ h => (nomatch h), .nil⟩
        | cons d ds ih =>
          intro ⟨v, r, e, rd, rs⟩
          subst e
          refine ⟨fun p hp => ?_, List.pairwise_cons.mpr ⟨fun p hp hn => hn.elim, (ih rs).apart⟩⟩
          rcases List.mem_cons.mp hp with rfl | hp
          · exact rd
          · exact (ih rs).each p hp
      exact this rs
    rw [show vs.toArray.toList = (vs.zip (ds.map R.d)).map (·.1) by rw [e1]]
    refine stores ek _ xs _ V₁ al _ _ h3 (by rw [List.length_zip, List.length_map, rs.len, hl]; simp) hs (fun x hx => (hs x hx).w ek) (g₁.trans g2).toS (x₁.keeps k2) pl fun h'' tk al' g' st' _ => ⟨Z₁, _, al', .next, g', st', trivial, ?_⟩
    rw [e2]; exact q) fun _ _ e => e) (hc en) (hw en)
end
end Mine
end

section
open PySem PySem.W PyProof.Rows PySem.Calls
namespace Mine
section
variable {W : Str → Prop} {G : GC} {n : Nat} {sc : Scope} {en : Env} {V V' V'' V₀ : VM} {Z Z' Z'' Z₀ : Zm} {al al' al'' al₀ : Str → Addr} {h h' h'' h₀ : Heap} {s s' s'' s₀ s₁ : Shared} {A : Around} {E : Value → Shared → Prop}

/-- a list of the frame's changes -/
theorem own_upd {y : Str} {ds ds' : List D} {vs' : List Value} {m' tk : Nat} (x : St G en V Z al s.heap) (hv : V.lookup y = some (.own ds)) (sb : Heap.SameBut (al y) s.heap h') (ho : h'.get? (al y) = some (Lo vs' m')) (rs : Reps Z ds' vs') :
    Go en V Z al s (setV V y (.own ds')) Z { s with heap := h', toks := tk } ∧ St G en (setV V y (.own ds')) Z al h' := by
  obtain ⟨l₂, hz, vs, m, ho₀, rs₀⟩ := x.own y ds hv
  have look : ∀ z u, (setV V y (.own ds')).lookup z = some u → (z = y ∧ u = .own ds') ∨ (z ≠ y ∧ V.lookup z = some u) := fun z u e => by
    rw [lookup_setV] at e
    by_cases hz : z = y
    · rw [if_pos hz] at e; exact .inl ⟨hz, (Option.some.inj e).symm⟩
    · rw [if_neg hz] at e; exact .inr ⟨hz, e⟩
  have so : SubOwn V (setV V y (.own ds')) := fun z es e => by
    rcases look z _ e with ⟨rfl, _⟩ | ⟨_, e⟩
    · exact ⟨ds, hv⟩
    · exact ⟨es, e⟩
  have notSeq : ∀ b o', s.heap.get? b = some o' → (∀ xs m, o'.data ≠ .seq xs m) → b ≠ al y := fun b o' e hne eb => by
    rw [eb, ho₀] at e; cases e; exact hne _ _ rfl
  have nsNe : en.locals ≠ al y := by
    obtain ⟨m, o', es, ep, ho', hd', _⟩ := x.ns
    exact notSeq _ o' ho' fun xs m e => by rw [hd'] at e; cases e
  have ceNe : ∀ z c, en.cells.lookup z = some c → c ≠ al y := fun z c e => by
    obtain ⟨u, o', ho', hd'⟩ := x.cell z c e
    exact notSeq _ o' ho' fun xs m e => by rw [hd'] at e; cases e
  have lds : ∀ z w, Loads en s.heap z w → Loads en h' z w := fun z w l => by
    rcases l with ⟨e, m, hm, hw⟩ | ⟨e, c, hc, o', ho', hd'⟩
    · exact .inl ⟨e, m, hm.sameBut sb nsNe, hw⟩
    · exact .inr ⟨e, c, hc, o', (sb.2 c (ceNe z c hc)).trans ho', hd'⟩
  have dom : ∀ a o', s.heap.get? a = some o' → ∃ o'', h'.get? a = some o'' := fun a o' e => by
    by_cases ea : a = al y
    · exact ⟨_, ea ▸ ho⟩
    · exact ⟨o', (sb.2 a ea).trans e⟩
  refine ⟨⟨.refl Z, fun _ _ e => .inl e, ⟨fun a o' e w _ => (sb.2 a fun ea => w ⟨y, ds, hv, ea⟩).trans e, fun m hm => hm.sameBut sb nsNe, dom⟩, so, rfl, rfl⟩, ?_⟩
  exact {
    base := x.base
    fz := fun a o' e => (sb.2 a fun ea => by rw [ea, hz] at e; cases e).trans (x.fz a o' e)
    ns := let ⟨m, hm⟩ := x.ns; ⟨m, hm.sameBut sb nsNe⟩
    zl := x.zl
    cell := fun z c e => let ⟨u, o', ho', hd'⟩ := x.cell z c e; ⟨u, o', (sb.2 c (ceNe z c e)).trans ho', hd'⟩
    zc := x.zc
    cinj := x.cinj
    val := fun z d' e => by
      rcases look z _ e with ⟨_, eu⟩ | ⟨_, e⟩
      · cases eu
      · obtain ⟨w, l, r⟩ := x.val z d' e
        exact ⟨w, lds z w l, r⟩
    own := fun z es e => by
      rcases look z _ e with ⟨rfl, eu⟩ | ⟨hzy, e⟩
      · cases eu
        exact ⟨lds _ _ l₂, hz, _, m', ho, rs⟩
      · obtain ⟨l, hz', vs', m', ho', rs''⟩ := x.own z es e
        exact ⟨lds _ _ l, hz', vs', m', (sb.2 _ fun ea => hzy (x.inj z y es ds e hv ea)).trans ho', rs''⟩
    inj := fun z z' es es' e e' ea => by
      obtain ⟨fs, e1⟩ := so z es e
      obtain ⟨fs', e2⟩ := so z' es' e'
      exact x.inj z z' fs fs' e1 e2 ea }

/-- xs[i] = e, of a list that may change -/
theorem ex_setitem {y : Str} {py p p' : Pos} {i e : Expr} {Q : Fl → VM → Prop}
    (hq : EvQ G n sc e V (fun r V₁ => (∃ ds, V₁.lookup y = some (.own ds)) ∧ EvQ G n sc i V₁ (fun ri V₂ => ∃ ds k, (V₂.lookup y = some (.own ds) ∧ ri = .d (.int k) ∧ 0 ≤ k ∧ k < 2 ^ 62 ∧ k.toNat < ds.length) ∧ Q .next (setV V₂ y (.own (ds.set k.toNat r.frz))))))
    (hc : notComp e = true := by rfl) (hn : okName y = true := by decide) : ExS G n sc (.Assign [.Subscript (.Name y py) i p'] e p) V Q :=
  fun en A E s Z al ek rm st => by
    refine wpAny_Assign_Subscript (EvD.use (Q := fun d V₁ => (∃ ds, V₁.lookup y = some (.own ds)) ∧ EvQ G n sc i V₁ (fun ri V₂ => ∃ ds k, (V₂.lookup y = some (.own ds) ∧ ri = .d (.int k) ∧ 0 ≤ k ∧ k < 2 ^ 62 ∧ k.toNat < ds.length) ∧ Q .next (setV V₂ y (.own (ds.set k.toNat d))))) hq.frz ek rm st fun v s₁ Z₁ V₁ d g₁ x₁ rd hr1 => ?_) (swaps_no hc)
    obtain ⟨⟨ds₀, hv⟩, h₁⟩ := hr1
    obtain ⟨l, _⟩ := x₁.own y ds₀ hv
    refine wpAny_Name (load_var ek l ?_ (okCls hn)) (okDebug hn)
    refine wpAny_mono (h₁ en A E s₁ Z₁ al ek rm x₁) (fun iv s₂ hr2 => ?_) fun _ _ e => e
    obtain ⟨Z₂, V₂, ri, g₂, x₂, rr, ds, k, ⟨hv₂, er, h0, h1, hlt⟩, q⟩ := hr2
    subst er
    obtain ⟨t, rfl⟩ := rr
    obtain ⟨l₂, w⟩ := x₂.own y ds hv₂
    obtain ⟨hz, vs, m, ho, rs⟩ := w
    refine ki_setAt (n := m) ho h0 (by lia) (by simp only [List.size_toArray, rs.len]; lia) ?_
    obtain ⟨m', hm⟩ := mapSeq_set vs k.toNat v m
    obtain ⟨gu, su⟩ := own_upd (ds' := ds.set k.toNat d) x₂ hv₂ (Heap.SameBut.update ..) ((Heap.get?_update_self _ ho (by rw [hm]; rfl)).trans (congrArg some hm)) (rs.set k.toNat (rd.mono g₂.z))
    exact ⟨Z₂, _, al, .next, (g₁.trans (g₂.trans gu)).toS, su, trivial, q⟩
theorem notStar_trees {e : Expr} {pos : Pos} (h : notStar e = true) : backTo pos (starEach [e] en) = [(false, eval e en)] := by rw [starEach_cons h]; rfl
theorem ex_append {y : Str} {py apos pos p : Pos} {e : Expr} {ds₀ : List D} {Q : Fl → VM → Prop} (hv : V.lookup y = some (.own ds₀))
    (hq : EvQ G n sc e V (fun r V₁ => ∃ ds, (V₁.lookup y = some (.own ds) ∧ ds.length ≤ 2 ^ 20) ∧ Q .next (setV V₁ y (.own (ds ++ [r.frz])))))
    (hl : (apos.endLine == pos.line) = true := by decide) (hst : notStar e = true := by rfl) (hn : okName y = true := by decide) :
    ExS G n sc (.Expr (.Call (.Attribute (.Name y py) "append" apos) [e] [] pos) p) V Q :=
  fun en A E s Z al ek rm st => by
    obtain ⟨l, _, vs₀, m₀, ho₀, _⟩ := st.own y ds₀ hv
    refine wpAny_Expr (wpAny_Call_append rfl (by rw [notStar_trees hst]; rfl) hl (notStar_trees hst) (wpAny_Name (load_var ek l ⟨_, _, rfl, ⟨_, _, ho₀, rfl, rfl, rfl⟩, ?_⟩ (okCls hn)) (okDebug hn))) (by unfold interactive; rw [ek.scope, ek.kind]; rfl) rfl
    refine EvD.use (Q := fun d V₁ => ∃ ds, (V₁.lookup y = some (.own ds) ∧ ds.length ≤ 2 ^ 20) ∧ Q .next (setV V₁ y (.own (ds ++ [d])))) hq.frz ek rm st fun v s₁ Z₁ V₁ d g₁ x₁ rd hr1 => ?_
    obtain ⟨ds, ⟨hv₁, hsz⟩, q⟩ := hr1
    obtain ⟨l₁, hz, vs, m, ho, rs⟩ := x₁.own y ds hv₁
    refine append_at ho (fun h' sb ho' => ?_) (by rw [sizeLine_eq]; simp only [List.size_toArray, rs.len]; lia)
    have e1 : h'.get? (al y) = some (Lo (vs ++ [v]) (m + 1)) := by rw [ho']; simp [Lo]
    obtain ⟨gu, su⟩ := own_upd x₁ hv₁ sb e1 (rs.append (.one rd))
    exact ⟨Z₁, _, al, .next, (g₁.trans gu).toS, su, trivial, q⟩
/-- xs[i] += e, of a list of ints that may change -/
theorem ex_augitem {y : Str} {py p p' : Pos} {i e : Expr} {ds₀ : List D} {Q : Fl → VM → Prop} (hv : V.lookup y = some (.own ds₀))
    (hq : EvQ G n sc i V (fun ri V₁ => ∃ ds k a, (V₁.lookup y = some (.own ds) ∧ ri = .d (.int k) ∧ 0 ≤ k ∧ k < 2 ^ 62 ∧ ds[k.toNat]? = some (.int a)) ∧
      EvQ G n sc e V₁ (fun r V₂ => ∃ es b, (V₂.lookup y = some (.own es) ∧ r = .d (.int b) ∧ k.toNat < es.length) ∧ Q .next (setV V₂ y (.own (es.set k.toNat (.int (a + b))))))))
    (hs : notSlice i = true := by rfl) (hn : okName y = true := by decide) : ExS G n sc (.AugAssign (.Subscript (.Name y py) i p') .Add e p) V Q :=
  fun en A E s Z al ek rm st => by
    obtain ⟨l, _⟩ := st.own y ds₀ hv
    refine wpAny_AugAssign_SubscriptAny (wpAny_Name (load_var ek l ?_ (okCls hn)) (okDebug hn)) (by intros; cases i <;> first | rfl | cases hs)
    refine wpAny_mono (hq en A E s Z al ek rm st) (fun iv s₁ hr1 => ?_) fun _ _ e => e
    obtain ⟨Z₁, V₁, ri, g₁, x₁, rr, ds, k, a, ⟨hv₁, er, h0, h1, hget⟩, hq₂⟩ := hr1
    subst er
    obtain ⟨t, rfl⟩ := rr
    obtain ⟨l₁, hz, vs, m, ho, rs⟩ := x₁.own y ds hv₁
    obtain ⟨w, ew, ⟨u, rfl⟩⟩ := rs.get _ _ hget
    refine wpAny_getItem_list (items := vs.toArray) ⟨_, ho, rfl, m, rfl⟩ h0 (by lia) (by simpa using ew) ?_
    refine wpAny_mono (hq₂ en A E s₁ Z₁ al ek rm x₁) (fun v s₂ hr2 => ?_) fun _ _ e => e
    obtain ⟨Z₂, V₂, r, g₂, x₂, rr, es, b, ⟨hv₂, er, hlt⟩, q⟩ := hr2
    subst er
    obtain ⟨u', rfl⟩ := rr
    refine PySem.P.iadd_int ?_
    obtain ⟨l₂, hz₂, vs₂, m₂, ho₂, rs₂⟩ := x₂.own y es hv₂
    refine ki_setAt (n := m₂) (s := { s₂ with toks := s₂.toks + 1 }) ho₂ h0 (by lia) (by simp only [List.size_toArray, rs₂.len]; lia) ?_
    obtain ⟨m', hm⟩ := mapSeq_set vs₂ k.toNat (.int (a + b) s₂.toks) m₂
    obtain ⟨gu, su⟩ := own_upd (ds' := es.set k.toNat (.int (a + b))) x₂ hv₂ (Heap.SameBut.update ..) ((Heap.get?_update_self _ ho₂ (by rw [hm]; rfl)).trans (congrArg some hm)) (rs₂.set k.toNat ⟨_, rfl⟩)
    exact ⟨Z₂, _, al, .next, (g₁.trans (g₂.trans gu)).toS, su, trivial, q⟩

theorem foldl_rep (v : Value) : ∀ (k : Nat) (acc : Array Value), List.foldl (fun x1 x2 => x1 ++ x2) acc (List.replicate k #[v]) = acc ++ (List.replicate k v).toArray
  | 0, acc => by simp
  | k + 1, acc => by
    rw [List.replicate_succ, List.foldl_cons, foldl_rep v k]
    apply Array.ext'
    simp [List.replicate_succ]
/-- [e] * k -/
theorem ev_rep {e k : Expr} {p p' : Pos} {Q : R → VM → Prop} (hq : EvQ G n sc e V (fun r V₁ => EvQ G n sc k V₁ (fun rk V₂ => ∃ i, (rk = .d (.int i) ∧ 0 ≤ i ∧ i ≤ 2 ^ 20) ∧ Q (.new (List.replicate i.toNat r.frz)) V₂))) (hs : notStar e = true := by rfl) :
    EvQ G n sc (.BinOp (.List [e] p) .Mult k p') V Q :=
  fun en A E s Z al ek rm st => by
    have hq' : EvQ G n sc (.List [e] p) V (fun r V₁ => ∃ d, r = .new [d] ∧ EvQ G n sc k V₁ (fun rk V₂ => ∃ i, (rk = .d (.int i) ∧ 0 ≤ i ∧ i ≤ 2 ^ 20) ∧ Q (.new (List.replicate i.toNat d)) V₂)) :=
      ev_list ⟨hs, fun en A E s Z al ek rm st => wpAny_mono (hq en A E s Z al ek rm st) (fun v s' hq1 => by obtain ⟨Z', V', r, g, x, rr, q⟩ := hq1; exact ⟨Z', V', r, g, x, rr, (by show 1 ≤ 2 ^ 20; decide), r.frz, rfl, q⟩) fun _ _ e => e⟩
    refine wpAny_BinOp (wpAny_mono (hq' en A E s Z al ek rm st) (fun v s₁ hr3 => ?_) fun _ _ e => e)
    obtain ⟨Z₁, V₁, r, g₁, x₁, rr, d, er, h₁⟩ := hr3
    subst er
    have pd := rr.pend st g₁
    refine wpAny_mono (h₁ en A E s₁ Z₁ al ek rm x₁) (fun w s₂ hr4 => ?_) fun _ _ e => e
    obtain ⟨Z₂, V₂, rk, g₂, x₂, rrk, i, ⟨er, h0, h1⟩, q⟩ := hr4
    subst er
    obtain ⟨t, rfl⟩ := rrk
    obtain ⟨a, rfl, hn, ⟨hz, vs, m, ho, rs⟩, nd⟩ := pd.go x₁ (fun _ _ => trivial) g₂
    obtain ⟨u, r', rfl, rd, hr⟩ := rs
    rw [show r' = [] from hr] at ho
    refine wpAny_binaryOp_repeat_ref (T := "list") (U := "int") (by decide) ⟨_, ho, rfl⟩ (fun s' => typeIs_int s' i t) noFill_list_mul F.fills_int_mul F.slot_int_rmul repeat_list F.slot_int_index.lookup
      (call_meets F.slot_int_rmul (typeIs_int _ i t) F.entry_int_rmul (F.args_int_rmul_2 _ _) (int___rmul___int_list i t a [u].toArray m)
        ⟨ho, rfl, ⟨_, ho, rfl⟩, call_meets F.slot_list_mul ⟨_, ho, rfl⟩ F.entry_list_mul (F.args_list_mul_2 _ _)
          (AutoListH.list___mul___list_int_3 a [u].toArray m i t (by simp [Builtin.List.listFitsIndex]; lia) (by first | lia | (simp; lia)) (by simp [Builtin.List.listTooLong, sizeLine]; lia))
          ⟨ho, ?_⟩⟩)
    have e2 : List.foldl (fun x1 x2 => x1 ++ x2) #[] (List.replicate (if ([u].toArray).isEmpty = true then 0 else i.toNat) [u].toArray) = (List.replicate i.toNat u).toArray := by
      rw [if_neg (by simp), foldl_rep]; simp
    have rr : Reps Z₂ (List.replicate i.toNat d) (List.replicate i.toNat u) := by
      generalize i.toNat = k
      induction k with
      | zero => exact rfl
      | succ k ih => exact ⟨u, _, rfl, rd, ih⟩
    rw [e2]
    exact (EP.newPush (tk := s₂.toks) (m := 0) x₂ rr q).pre (g₁.trans g₂)

-- while
/-- a while by what holds of its names and a measure -/
theorem ex_while {t : Expr} {b : List Stmt} {p : Pos} {Q : Fl → VM → Prop} (J : Nat → VM → Prop) (k : Nat) (h0 : J k V)
    (turn : ∀ m V₁, J m V₁ → CoQ G n sc t V₁ (fun c V₂ => if c = true then ExL G n sc b V₂ (fun fl V₃ => match fl with | .next => ∃ m', m' < m ∧ J m' V₃ | .cont => ∃ m', m' < m ∧ J m' V₃ | .brk => Q .next V₃ | .ret r => Q (.ret r) V₃) else Q .next V₂)) :
    ExS G n sc (.While t b [] p) V Q :=
  fun en A E s Z al ek rm st => wpAny_While (codeAny_whileLoop (fun m s' => ∃ Z₁ V₁ al₁, GoS (JW en) en V Z al s V₁ Z₁ al₁ s' ∧ St G en V₁ Z₁ al₁ s'.heap ∧ J m V₁)
    (fun m s' ⟨Z₁, V₁, al₁, g₁, x₁, hJ⟩ => wpAny_mono (turn m V₁ hJ en A _ s' Z₁ al₁ ek rm x₁) (fun c s₂ hs1 => by
      obtain ⟨Z₂, V₂, g₂, x₂, q⟩ := hs1
      cases c with
      | false => exact wpAny_execs_nil ⟨Z₂, V₂, al₁, .next, g₁.trans g₂.toS, x₂, trivial, q⟩
      | true =>
        simp only [if_true] at q ⊢
        refine wpAny_mono (q.useS ek rm x₂ (g₁.trans g₂.toS)) (fun fl s₃ hr5 => ?_) fun _ _ e => e
        obtain ⟨Z₃, V₃, al₃, r, g₃, x₃, rr, q⟩ := hr5
        cases fl <;> cases r <;> first | exact rr.elim | skip
        · obtain ⟨m', hm, hJ'⟩ := q; exact ⟨m', hm, Z₃, V₃, al₃, g₃, x₃, hJ'⟩
        · exact ⟨Z₃, V₃, al₃, .next, g₃, x₃, trivial, q⟩
        · obtain ⟨m', hm, hJ'⟩ := q; exact ⟨m', hm, Z₃, V₃, al₃, g₃, x₃, hJ'⟩
        · exact ⟨Z₃, V₃, al₃, .ret _, g₃, x₃, rr, q⟩) fun _ _ e => e) k ⟨Z, V, al, .refl, st, h0⟩)

-- iterators
def isTupT : Expr → Bool
  | .Tuple .. => true
  | .List .. => true
  | _ => false
def ItemV (Z : Zm) (h : Heap) (t : Expr) (v : Value) (d : D) : Prop := Rep Z d v ∨ (isTupT t = true ∧ ∃ ds T vals, d = .tup ds ∧ v = .ref T ∧ h.IsTuple T vals ∧ Reps Z ds vals.toList)
structure Itr (G : GC) (target : Expr) (I : Addr) (fp wr : List Addr) (items : List D) (Z : Zm) (S : Nat → Heap → Prop) : Prop where
  t : ∀ A, A.handled = none → ∃ P Md, KTurns G.prog G.w A target I fp wr items.length P Md S ∧ ∀ i v h, P i v h → ∃ d, items[i]? = some d ∧ ItemV Z h target v d
  self : ∀ A s (P : Value → Shared → Prop) E, S 0 s.heap → P (.ref I) s → wpAny (model G.prog G.w) A (pyIter (.ref I)) P E s
  ex : ∀ i h, S i h → ∀ b ∈ fp, ∃ o, h.get? b = some o
structure ItAt (G : GC) (en : Env) (target : Expr) (V : VM) (Z : Zm) (al : Str → Addr) (h₀ h : Heap) (I : Addr) (fp wr : List Addr) (items : List D) (S : Nat → Heap → Prop) : Prop where
  itr : Itr G target I fp wr items Z S
  s0 : S 0 h
  live : ∀ b ∈ fp, ¬ WE V al b ∧ b ≠ en.locals ∧ ∀ x, en.cells.lookup x ≠ some b
  new : ∀ b ∈ wr, h₀.get? b = none ∧ Z b = none
  len : items.length ≤ 2 ^ 20
def ItP (G : GC) (en : Env) (target : Expr) (V : VM) (Z : Zm) (al : Str → Addr) (s : Shared) (Q : List D → VM → Prop) (it : Value) (s₂ : Shared) : Prop :=
  ∃ Z' V' I fp wr items S, Go en V Z al s V' Z' s₂ ∧ St G en V' Z' al s₂.heap ∧ it = .ref I ∧ ItAt G en target V' Z' al s.heap s₂.heap I fp wr items S ∧ Q items V'
def ItQ (G : GC) (n : Nat) (sc : Scope) (target iter : Expr) (V : VM) (Q : List D → VM → Prop) : Prop :=
  ∀ en A E s Z al, EnvOk en sc → Rm A n → St G en V Z al s.heap → wpAny (model G.prog G.w) A (eval iter en) (fun xv s₁ => wpAny (model G.prog G.w) A (pyIter xv) (ItP G en target V Z al s Q) E s₁) E s

theorem ItQ.post {target iter : Expr} {Q Q' : List D → VM → Prop} (hq : ItQ G n sc target iter V Q) (k : ∀ items V₁, Q items V₁ → Q' items V₁) : ItQ G n sc target iter V Q' :=
  fun en A E s Z al ek rm st => wpAny_mono (hq en A E s Z al ek rm st) (fun xv s₁ h₁ => wpAny_mono h₁ (fun it s₂ h => by
    obtain ⟨Z', V', I, fp, wr, items, S, g₂, x₂, e, ia, q⟩ := h
    exact ⟨Z', V', I, fp, wr, items, S, g₂, x₂, e, ia, k _ _ q⟩) fun _ _ e => e) fun _ _ e => e
theorem live_of {b : Addr} (x₀ : St G en V Z al s.heap) (g : Go en V Z al s V' Z' s') (x : St G en V' Z' al s'.heap) (hb : (∃ o, Z' b = some o) ∨ (s.heap.get? b = none ∧ ∃ o, s'.heap.get? b = some o)) :
    ¬ WE V' al b ∧ b ≠ en.locals ∧ ∀ y, en.cells.lookup y ≠ some b := by
  rcases hb with ⟨o, hz⟩ | ⟨hn, o, ho⟩
  · refine ⟨fun ⟨y, es, e, ea⟩ => ?_, fun e => ?_, fun y e => ?_⟩
    · have := (x.own y es e).2.1; rw [← ea, hz] at this; cases this
    · rw [e, x.zl] at hz; cases hz
    · rw [x.zc y b e] at hz; cases hz
  · refine ⟨fun ⟨y, es, e, ea⟩ => ?_, fun e => ?_, fun y e => ?_⟩
    · obtain ⟨fs, e'⟩ := g.so y es e
      obtain ⟨_, _, vs, m, ho', _⟩ := x₀.own y fs e'
      rw [← ea, hn] at ho'; cases ho'
    · obtain ⟨m, o', es, ep, ho', _⟩ := x₀.ns
      rw [← e, hn] at ho'; cases ho'
    · obtain ⟨u, o', ho', _⟩ := x₀.cell y b e
      rw [hn] at ho'; cases ho'

/-- names that a turn binds -/
def bindT : Expr → D → VM → Option VM
  | .Name x _, d, V => some (setV V x (.d d))
  | .Tuple es _ _, .tup ds, V => match namesOf es with
    | some xs => if xs.length = ds.length then some (setVs V (xs.zip (ds.map R.d))) else none
    | none => none
  | _, _, _ => none
def targetNames : Expr → List Str
  | .Name x _ => [x]
  | .Tuple es _ _ => (namesOf es).getD []
  | _ => []
def targetOk (sc : Scope) : Expr → Prop
  | .Name x _ => isStore sc x
  | .Tuple es _ _ => ∃ xs, namesOf es = some xs ∧ ∀ x ∈ xs, isStore sc x
  | _ => False
theorem targetOk.two {target : Expr} (h : targetOk sc target) : (∃ y p, target = .Name y p ∧ isStore sc y) ∨ ∃ es k p xs, target = .Tuple es k p ∧ namesOf es = some xs ∧ ∀ x ∈ xs, isStore sc x := by
  cases target with
  | Name y p => exact .inl ⟨y, p, rfl, h⟩
  | Tuple es k p => obtain ⟨xs, e, hs⟩ := h; exact .inr ⟨es, k, p, xs, rfl, e, hs⟩
  | _ => exact False.elim h
theorem targetOk.w {target : Expr} (h : targetOk sc target) (ek : EnvOk en sc) : ∀ x ∈ targetNames target, JW en x := fun x hx => by
  rcases h.two with ⟨y, p, rfl, h⟩ | ⟨es, k, p, xs, rfl, e, hs⟩
  · rw [List.mem_singleton.mp hx]; exact isStore.w h ek
  · have hx : x ∈ (namesOf es).getD [] := hx
    rw [e] at hx
    exact (hs x hx).w ek
theorem reps_pend {vs : List Value} {ds : List D} (r : Reps Z ds vs) : PendL Z V al h₀ h (vs.zip (ds.map R.d)) := by
  induction ds generalizing vs with
  | nil => rw [show vs = [] from r]; exact ⟨fun _ h => (nomatch h), .nil⟩
  | cons d ds ih =>
    obtain ⟨v, r, e, rd, rs⟩ := r
    subst e
    refine ⟨fun p hp => ?_, List.pairwise_cons.mpr ⟨fun p hp hn => hn.elim, (ih rs).apart⟩⟩
    rcases List.mem_cons.mp hp with rfl | hp
    · exact rd
    · exact (ih rs).each p hp
theorem bind_sound {target : Expr} {d : D} {v : Value} {V₁ : VM} {P : Unit → Shared → Prop} (ek : EnvOk en sc) (rm : Rm A n) (ht : targetOk sc target) (hb : bindT target d V = some V₁) (x : St G en V Z al s.heap) (iv : ItemV Z s.heap target v d) (hW : ∀ x ∈ targetNames target, W x)
    (k : ∀ h' tk, GoS W en V Z al s V₁ Z al { s with heap := h', toks := tk } → St G en V₁ Z al h' → P () { s with heap := h', toks := tk }) : wpAny (model G.prog G.w) A (assign target en v) P E s := by
  rcases ht.two with ⟨y, p, rfl, ht⟩ | ⟨es, kk, p, xs, rfl, hx, hs⟩
  · skip
    unfold bindT at hb
    cases hb
    have hd : Rep Z d v := iv.elim id fun h => by cases h.1
    exact wpAny_assign_Name (store_core (r := .d d) ek ht (hW y List.mem_cons_self) .refl x hd fun h' tk al' g' st' _ _ sm => by
      have := sm ⟨d, rfl⟩
      subst this
      exact k h' tk g' st')
  · skip
    cases d with
    | bool _ => cases hb
    | non => cases hb
    | int _ => cases hb
    | list _ => cases hb
    | tup ds =>
    unfold bindT at hb
    simp only [hx] at hb
    split at hb <;> cases hb
    rename_i hl
    have hv : ∃ T vals, v = .ref T ∧ s.heap.IsTuple T vals ∧ Reps Z ds vals.toList := by
      rcases iv with ⟨a, vs, rfl, z, r⟩ | ⟨_, ds', T, vals, e, rfl, hT, r⟩
      · exact ⟨a, vs.toArray, rfl, z.tuple x, r⟩
      · cases e; exact ⟨T, vals, rfl, hT, r⟩
    obtain ⟨T, vals, rfl, hT, rs⟩ := hv
    obtain ⟨h1, h2, h3⟩ := namesOf_fs (G := G) (A := A) (en := en) hx
    have hlen : vals.size = ds.length := by rw [← Array.length_toList, rs.len]
    refine wpAny_assign_Tuple rm.1 hT (by rw [h1, hlen]; exact hl) h2 fun h' xb => ?_
    have k2 : ∀ b o, s.heap.get? b = some o → h'.get? b = some o := fun b o e => xb b o (fun eb => by have := Heap.lt_size e; rw [eb] at this; exact Nat.lt_irrefl _ this) e
    have g2 : Go en V Z al s V Z { s with heap := h' } := .of_keeps k2
    have e1 : (vals.toList.zip (ds.map R.d)).map (·.1) = vals.toList := by rw [List.map_fst_zip]; rw [List.length_map, rs.len]; exact Nat.le_refl _
    have e2 : (vals.toList.zip (ds.map R.d)).map (·.2) = ds.map R.d := by rw [List.map_snd_zip]; rw [List.length_map, rs.len]; exact Nat.le_refl _
    have w := stores (E := E) ek _ xs (vals.toList.zip (ds.map R.d)) V al { s with heap := h' } P h3 (by rw [List.length_zip, List.length_map, rs.len, hl]; simp) hs (fun y hy => hW y (by show y ∈ (namesOf es).getD []; rw [hx]; exact hy)) g2.toS (x.keeps k2) (reps_pend rs) fun h'' tk al' g' st' sm => by
      rw [e2] at g' st'
      have : al' = al := sm fun p hp => by
        have := List.mem_map_of_mem (f := (·.2)) hp
        rw [e2] at this
        obtain ⟨d, _, ed⟩ := List.mem_map.mp this
        exact ⟨d, ed.symm⟩
      subst this
      exact k h'' tk g' st'
    rw [e1] at w
    exact w
end
end Mine
end

section
open PySem PySem.W PyProof.Rows PySem.Calls
namespace Mine
section
variable {W : Str → Prop} {G : GC} {n : Nat} {sc : Scope} {en : Env} {V V' V'' V₀ : VM} {Z Z' Z'' Z₀ : Zm} {al al' al'' al₀ : Str → Addr} {h h' h'' h₀ : Heap} {s s' s'' s₀ s₁ : Shared} {A : Around} {E : Value → Shared → Prop}

def Live (en : Env) (V : VM) (al : Str → Addr) (b : Addr) : Prop := ¬ WE V al b ∧ b ≠ en.locals ∧ ∀ x, en.cells.lookup x ≠ some b
/-- the iterator moves on: nothing of the frame's is touched -/
theorem St.but {wr : List Addr} (x : St G en V Z al h) (k : ∀ b o, b ∉ wr → h.get? b = some o → h'.get? b = some o) (hw : ∀ b ∈ wr, Z b = none ∧ Live en V al b) : St G en V Z al h' := by
  have kn : ∀ m, h.Ns en.locals m → h'.Ns en.locals m := fun m ⟨o, es, ep, e, r⟩ => ⟨o, es, ep, k _ o (fun hb => (hw _ hb).2.2.1 rfl) e, r⟩
  have kc : ∀ y c u, en.cells.lookup y = some c → h.IsCell c u → h'.IsCell c u := fun y c u e ⟨o, ho, hd⟩ => ⟨o, k c o (fun hb => (hw _ hb).2.2.2 y e) ho, hd⟩
  have kl : ∀ y v, Loads en h y v → Loads en h' y v := fun y v l => by
    rcases l with ⟨e, m, hm, hw'⟩ | ⟨e, c, hc, hv⟩
    · exact .inl ⟨e, m, kn m hm, hw'⟩
    · exact .inr ⟨e, c, hc, kc y c _ hc hv⟩
  exact {
    base := x.base
    fz := fun a o e => k a o (fun hb => by rw [(hw _ hb).1] at e; cases e) (x.fz a o e)
    ns := let ⟨m, hm⟩ := x.ns; ⟨m, kn m hm⟩
    zl := x.zl
    cell := fun y c e => let ⟨u, hu⟩ := x.cell y c e; ⟨u, kc y c u e hu⟩
    zc := x.zc
    cinj := x.cinj
    val := fun y d e => let ⟨v, l, r⟩ := x.val y d e; ⟨v, kl y v l, r⟩
    own := fun y ds e => by
      obtain ⟨l, hz, vs, m, ho, rs⟩ := x.own y ds e
      exact ⟨kl _ _ l, hz, vs, m, k _ _ (fun hb => (hw _ hb).2.1 ⟨y, ds, e, rfl⟩) ho, rs⟩
    inj := x.inj }
theorem GoS.but {wr : List Addr} {tk : Nat} (g : GoS W en V₀ Z₀ al₀ s₀ V Z al s) (k : ∀ b o, b ∉ wr → s.heap.get? b = some o → h'.get? b = some o) (hn : ∀ b ∈ wr, s₀.heap.get? b = none) : GoS W en V₀ Z₀ al₀ s₀ V Z al { s with heap := h', toks := tk } where
  z := g.z
  zn := g.zn
  obj := fun a o e w l c => k a o (fun hb => by rw [hn a hb] at e; cases e) (g.obj a o e w l c)
  dom := fun a o e => let ⟨o', e'⟩ := g.dom a o e; ⟨o', k a o' (fun hb => by rw [hn a hb] at e; cases e) e'⟩
  own := g.own
  alk := g.alk
  kp := g.kp
theorem Live.go {b : Addr} (l : Live en V al b) (g : GoS W en V Z al s V' Z' al' s') (ex : ∃ o, s.heap.get? b = some o) : Live en V' al' b :=
  ⟨fun w => (g.we w).elim l.1 (fun e => by obtain ⟨o, ho⟩ := ex; rw [e] at ho; cases ho), l.2⟩
theorem Live.zgo {b : Addr} (l : Live en V al b) (hz : Z b = none) (g : GoS W en V Z al s V' Z' al' s') (ex : ∃ o, s.heap.get? b = some o) : Z' b = none := by
  cases e : Z' b with
  | none => rfl
  | some o =>
    rcases g.zn b o e with e | e | e
    · rw [hz] at e; cases e
    · exact (l.1 e).elim
    · obtain ⟨o', ho⟩ := ex; rw [e] at ho; cases ho
theorem ItemV.mono {t : Expr} {v : Value} {d : D} (i : ItemV Z h t v d) (k : Z.le Z') : ItemV Z' h t v d :=
  i.imp (·.mono k) fun ⟨e, ds, T, vals, a, b, c, r⟩ => ⟨e, ds, T, vals, a, b, c, r.mono k⟩

theorem ex_for {target iter : Expr} {body : List Stmt} {p : Pos} {Q : Fl → VM → Prop} (ht : targetOk sc target)
    (hq : ItQ G n sc target iter V (fun items V₁ => ∃ J : Nat → VM → Prop, J 0 V₁ ∧
      (∀ i Vi d, items[i]? = some d → J i Vi → ∃ V', bindT target d Vi = some V' ∧ ExL G n sc body V' (fun fl V'' => match fl with | .next => J (i + 1) V'' | .cont => J (i + 1) V'' | .brk => Q .next V'' | .ret r => Q (.ret r) V'')) ∧
      ∀ Vn, J items.length Vn → Q .next Vn))
    (hs : ∀ en x, foldedSetIterable iter en x = pure x := by intros; rfl) : ExS G n sc (.For target iter body [] p) V Q :=
  fun en A E s Z al ek rm st => wpAny_For (wpAny_mono (hq en A E s Z al ek rm st) (fun xv s₁ h₁ => wpAny_mono h₁ (fun it s₂ hs1 => by
    obtain ⟨Z', V', I, fp, wr, items, S, g₂, x₂, eit, ia, J, hJ0, step, fin⟩ := hs1
    subst eit
    obtain ⟨P, Md, W, hP⟩ := ia.itr.t A rm.1
    refine codeAny_forLoop_any (fun k s' => ∃ i Zi Vi ali, GoS (JW en) en V Z al s Vi Zi ali s' ∧ St G en Vi Zi ali s'.heap ∧ S i s'.heap ∧ (∀ b ∈ fp, Live en Vi ali b) ∧ (∀ b ∈ wr, Zi b = none) ∧ Z'.le Zi ∧ J i Vi ∧ i ≤ items.length ∧ k = items.length + 1 - i) ?_ (items.length + 1)
      ⟨0, Z', V', al, g₂.toS, x₂, ia.s0, ia.live, fun b hb => (ia.new b hb).2, .refl Z', hJ0, Nat.zero_le _, rfl⟩
    rintro k s' ⟨i, Zi, Vi, ali, g, x, hS, hl, hz, hzz, hJ, hi, rfl⟩
    have hwr : ∀ b ∈ wr, Zi b = none ∧ Live en Vi ali b := fun b hb => ⟨hz b hb, hl b (W.sub b hb)⟩
    have hwn : ∀ b ∈ wr, s.heap.get? b = none := fun b hb => (ia.new b hb).1
    by_cases hlt : i < items.length
    · refine W.item i _ _ _ hlt hS fun v h₃ tk₃ hMd k₃ => ?_
      refine W.go i v _ _ _ hMd fun h₄ hPv hS₄ k₄ => ?_
      have k34 : ∀ b o, b ∉ wr → s'.heap.get? b = some o → h₄.get? b = some o := fun b o hb e => k₄ b o hb (k₃ b o hb e)
      have x₄ := x.but k34 hwr
      have g₄ := g.but (tk := tk₃) k34 hwn
      obtain ⟨d, ed, iv⟩ := hP i v h₄ hPv
      obtain ⟨V₅, eb, hbody⟩ := step i Vi d ed hJ
      refine bind_sound (s := { s' with heap := h₄, toks := tk₃ }) ek rm ht eb x₄ (iv.mono hzz) (ht.w ek) fun h₅ tk₅ g₅ x₅ => ?_
      refine wpAny_mono (hbody.useS (s₁ := { s' with heap := h₅, toks := tk₅ }) (s := { s' with heap := h₄, toks := tk₃ }) ek rm x₅ g₅) (fun fl s₆ hr1 => ?_) fun _ _ e => e
      obtain ⟨Z₆, V₆, al₆, r, g₆, x₆, rr, q⟩ := hr1
      have again : J (i + 1) V₆ → ∃ m, m < items.length + 1 - i ∧ ∃ i Zi Vi ali, GoS (JW en) en V Z al s Vi Zi ali s₆ ∧ St G en Vi Zi ali s₆.heap ∧ S i s₆.heap ∧ (∀ b ∈ fp, Live en Vi ali b) ∧ (∀ b ∈ wr, Zi b = none) ∧ Z'.le Zi ∧ J i Vi ∧ i ≤ items.length ∧ m = items.length + 1 - i := fun hJ' => by
        have ex := ia.itr.ex _ _ hS₄
        exact ⟨_, by omega, i + 1, Z₆, V₆, al₆, g₄.trans g₆, x₆, W.frame _ _ _ hS₄ (fun b hb o e => g₆.obj b o e (hl b hb).1 (hl b hb).2.1 fun y _ _ => (hl b hb).2.2 y),
          fun b hb => (hl b hb).go g₆ (ex b hb), fun b hb => (hwr b hb).2.zgo (hz b hb) g₆ (ex b (W.sub b hb)), hzz.trans g₆.z, hJ', hlt, rfl⟩
      cases fl <;> cases r <;> first | exact rr.elim | skip
      · exact again q
      · exact ⟨Z₆, V₆, al₆, .next, g₄.trans g₆, x₆, trivial, q⟩
      · exact again q
      · have := SP.pre (Q := Q) (s := s) (s₁ := { s' with heap := h₄, toks := tk₃ }) g₄ ⟨Z₆, V₆, al₆, .ret _, g₆, x₆, rr, q⟩
        exact this
    · have hin : i = items.length := by omega
      subst hin
      refine W.done _ _ _ hS fun h₃ tk₃ k₃ => wpAny_execs_nil ?_
      exact ⟨Zi, Vi, ali, .next, g.but k₃ hwn, x.but k₃ hwr, trivial, fin _ hJ⟩) fun _ _ e => e) fun _ _ e => e) (hs en)

-- sources
theorem it_of {target iter : Expr} {Q : List D → VM → Prop} {P : D → VM → Prop} (hq : EvD G n sc iter V P)
    (k : ∀ en A E s Z al s₁ Z₁ V₁ d v, EnvOk en sc → Rm A n → St G en V Z al s.heap → Go en V Z al s V₁ Z₁ s₁ → St G en V₁ Z₁ al s₁.heap → Rep Z₁ d v → P d V₁ → wpAny (model G.prog G.w) A (pyIter v) (ItP G en target V Z al s Q) E s₁) : ItQ G n sc target iter V Q :=
  fun en A E s Z al ek rm st => hq.use ek rm st fun v s₁ Z₁ V₁ d g₁ x₁ r p => k en A E s Z al s₁ Z₁ V₁ d v ek rm st g₁ x₁ r p

theorem lo_iter {h : Heap} {I ax : Addr} {i : Nat} {its : Array Value} (hh : h.IsListIter I ax i ∧ h.IsList ax its) : ∀ b ∈ [I, ax], ∃ o, h.get? b = some o := fun b hb => by
  rcases List.mem_cons.mp hb with rfl | hb
  · obtain ⟨o, ho, _⟩ := hh.1; exact ⟨o, ho⟩
  · rw [List.mem_singleton.mp hb]; obtain ⟨o, ho, _⟩ := hh.2; exact ⟨o, ho⟩
def nameOrTup : Expr → Bool
  | .Name .. => true
  | .Tuple .. => true
  | _ => false
theorem it_list {target iter : Expr} {Q : List D → VM → Prop} (hq : EvQ G n sc iter V (fun r V₁ => ∃ xs, (r.frz = .list xs ∧ xs.length ≤ 2 ^ 20) ∧ Q xs V₁)) (ht : nameOrTup target = true := by rfl) : ItQ G n sc target iter V Q :=
  it_of (P := fun d V₁ => ∃ xs, (d = .list xs ∧ xs.length ≤ 2 ^ 20) ∧ Q xs V₁) hq.frz fun en A E s Z al s₁ Z₁ V₁ d v ek rm st g₁ x₁ r ⟨xs, ⟨e, hl⟩, q⟩ => by
    subst e
    obtain ⟨ax, vs, rfl, z, rs⟩ := r
    have hL := z.list x₁
    have hne : ax ≠ s₁.heap.objs.size := by obtain ⟨o, e, _⟩ := hL; exact Nat.ne_of_lt (Heap.lt_size e)
    refine wpAny_pyIter_list hL ?_
    have k : ∀ b o, s₁.heap.get? b = some o → (s₁.heap.push { cls := .type "list_iterator", data := .fields #[.ref ax, .int 0 0] }).get? b = some o := fun b o e => Heap.get?_push_of_some _ e
    have g₂ : Go en V₁ Z₁ al s₁ V₁ Z₁ { s₁ with heap := s₁.heap.push { cls := .type "list_iterator", data := .fields #[.ref ax, .int 0 0] } } := .of_keeps k
    have hsz : vs.toArray.size = xs.length := by simp [rs.len]
    have hI := Heap.get?_push_size s₁.heap (o := { cls := .type "list_iterator", data := .fields #[.ref ax, .int 0 0] }) rfl
    have hzI : Z₁ s₁.heap.objs.size = none := x₁.zsize
    refine ⟨Z₁, V₁, _, [s₁.heap.objs.size, ax], [s₁.heap.objs.size], xs, fun i h => h.IsListIter s₁.heap.objs.size ax i ∧ h.IsList ax vs.toArray, g₁.trans g₂, x₁.keeps k, rfl, ⟨⟨fun A' hA => ?_, fun A' s' P' E' hS hP => ?_, fun i h => lo_iter⟩, ⟨⟨_, hI, rfl, rfl⟩, hL.push _⟩, fun b hb => ?_, fun b hb => ?_, hl⟩, q⟩
    · have hgo : ∀ (i : Nat) (v : Value) (s' : Shared) (Q' : Unit → Shared → Prop) (E' : Value → Shared → Prop), (s'.heap.IsListIter s₁.heap.objs.size ax i ∧ s'.heap.IsList ax vs.toArray) → Q' () s' →
          wpAny (model G.prog G.w) A' (letOwnedTupleGo target (.ref s₁.heap.objs.size) v) Q' E' s' := fun i v s' Q' E' hS hQ => by
        cases target with
        | Tuple es k pos =>
          cases v with
          | ref T => exact wpAny_letOwnedTupleGo_listiter hS.1 hQ
          | _ => exact wpAny_pure hQ
        | Name y p => exact wpAny_pure hQ
        | _ => cases ht
      have W := KTurns.ofWalks (target := target) (Walks.list (prog := G.prog) (w := G.w) hA s₁.heap.objs.size ax hne vs.toArray) hgo
      rw [hsz] at W
      refine ⟨_, _, W, fun i v h hP => ?_⟩
      · obtain ⟨hlt, hv⟩ := Array.getElem?_eq_some_iff.mp hP
        have hlt' : i < xs.length := by rw [← hsz]; exact hlt
        obtain ⟨w, ew, rw'⟩ := rs.get i xs[i] (List.getElem?_eq_getElem hlt')
        have : vs.toArray[i]? = some w := by simpa using ew
        rw [hP] at this; cases this
        exact ⟨xs[i], List.getElem?_eq_getElem hlt', .inl rw'⟩
    · exact wpAny_pyIter_listiter hS.1 hP
    · refine live_of st (g₁.trans g₂) (x₁.keeps k) ?_
      rcases List.mem_cons.mp hb with rfl | hb
      · exact .inr ⟨g₁.ke.none (get_size _), _, hI⟩
      · rw [List.mem_singleton.mp hb]; obtain ⟨o, n', e, _⟩ := z; exact .inl ⟨o, e⟩
    · rw [List.mem_singleton.mp hb]; exact ⟨g₁.ke.none (get_size _), hzI⟩
end
end Mine
end

section
open PySem PySem.W PyProof.Rows PySem.Calls
namespace Mine
section
variable {G : GC} {n : Nat} {sc : Scope} {en : Env} {V V' V'' V₀ : VM} {Z Z' Z'' Z₀ : Zm} {al al' al'' al₀ : Str → Addr} {h h' h'' h₀ : Heap} {s s' s'' s₀ s₁ : Shared} {A : Around} {E : Value → Shared → Prop}

theorem ItP.pre {target : Expr} {Q : List D → VM → Prop} {it : Value} (g : Go en V Z al s V' Z' s₁) (h : ItP G en target V' Z' al s₁ Q it s') : ItP G en target V Z al s Q it s' := by
  obtain ⟨Z₂, V₂, I, fp, wr, items, S, g₂, x₂, e, ia, q⟩ := h
  exact ⟨Z₂, V₂, I, fp, wr, items, S, g.trans g₂, x₂, e, ⟨ia.itr, ia.s0, ia.live, fun b hb => ⟨g.ke.none (ia.new b hb).1, (ia.new b hb).2⟩, ia.len⟩, q⟩
def ItC (G : GC) (n : Nat) (f : Value) (target : Expr) (ds : List D) (V : VM) (Q : List D → VM → Prop) : Prop :=
  ∀ en A E s Z al vs, Rm A n → St G en V Z al s.heap → Reps Z ds vs → wpAny (model G.prog G.w) A (call f vs) (fun xv s₁ => wpAny (model G.prog G.w) A (pyIter xv) (ItP G en target V Z al s Q) E s₁) E s
theorem it_blt {x : Str} {px pos : Pos} {f : Value} {e target : Expr} {es : List Expr} {Q : List D → VM → Prop} (hg : isGlob sc x) (hv : bootBuiltins x = some f) (hf : Plain f)
    (hq : EvL G n sc (e :: es) V (fun ds V₁ => ItC G n f target ds V₁ Q)) (hs : ∀ x ∈ e :: es, notStar x = true := by exact allStar (by rfl)) (hx : x ∈ bltN := by decide) (hn : okName x = true := by decide) :
    ItQ G n sc target (.Call (.Name x px) (e :: es) [] pos) V Q :=
  fun en A E s Z al ek rm st => wpAny_Call_NameR (load_blt ek hg st hv hx hn (callWith_plain hf hs (wpAny_mono (hq.sound ek rm st) (fun vs s₁ hq1 => by
   obtain ⟨Z₁, V₁, ds, g₁, x₁, r, c⟩ := hq1
   exact
    wpAny_mono (c en A E s₁ Z₁ al vs rm x₁ r) (fun xv s₂ h₂ => wpAny_mono h₂ (fun _ _ h => h.pre g₁) fun _ _ e => e) fun _ _ e => e) fun _ _ e => e)))

/-- new things only, and the iterator's own -/
theorem ItP.newK {target : Expr} {Q : List D → VM → Prop} {h' : Heap} {tk : Nat} {I : Addr} {fp wr : List Addr} {items : List D} {S : Nat → Heap → Prop} (x : St G en V Z al s.heap) (k : ∀ b o, s.heap.get? b = some o → h'.get? b = some o)
    (itr : Itr G target I fp wr items Z S) (s0 : S 0 h') (hf : ∀ b ∈ fp, (∃ o, Z b = some o) ∨ s.heap.get? b = none) (hw : ∀ b ∈ wr, s.heap.get? b = none) (hl : items.length ≤ 2 ^ 20) (q : Q items V) :
    ItP G en target V Z al s Q (.ref I) { s with heap := h', toks := tk } :=
  ⟨Z, V, I, fp, wr, items, S, .of_keeps k, x.keeps k, rfl, ⟨itr, s0, fun b hb => live_of (s' := { s with heap := h', toks := tk }) x (.of_keeps k) (x.keeps k) ((hf b hb).imp id fun e => ⟨e, itr.ex 0 h' s0 b hb⟩),
    fun b hb => ⟨hw b hb, by
      cases e : Z b with
      | none => rfl
      | some o => have := x.fz b o e; rw [hw b hb] at this; cases this⟩, hl⟩, q⟩

theorem tupGo_plain {I : Addr} {v : Value} {target : Expr} {P : Unit → Shared → Prop} (ht : isTupT target = false) (h : P () s) : wpAny (model G.prog G.w) A (letOwnedTupleGo target (.ref I) v) P E s := by
  cases target <;> first | exact wpAny_pure h | cases ht
-- range
def rangeI (a : Int) (c : Int) (m : Nat) : List Int := (List.range m).map fun (i : Nat) => a + (i : Int) * c
theorem itr_range {target : Expr} {I : Addr} {a c : Int} {m : Nat} (ht : isTupT target = false) :
    Itr G target I [I] [I] ((rangeI a c m).map D.int) Z (fun i h => IsRangeIter h I (a + (i : Nat) * c) ((m : Int) - (i : Nat)) c) where
  t := fun A hA => by
    have W := KTurns.ofWalks (target := target) (Walks.range (prog := G.prog) (w := G.w) hA I a c m) fun i v s' Q' E' _ hQ => tupGo_plain ht hQ
    have e : ((rangeI a c m).map D.int).length = m := by simp [rangeI]
    rw [e]
    let W' : Walks G.prog G.w A I [I] [I] m (fun i v => i < m ∧ ∃ t, v = .int (a + i * c) t) (fun i h => IsRangeIter h I (a + (i : Nat) * c) ((m : Int) - (i : Nat)) c) := (Walks.range hA I a c m).bound
    refine ⟨_, _, KTurns.ofWalks (target := target) W' fun i v s' Q' E' _ hQ => tupGo_plain ht hQ, fun i v h ⟨hi, t, ev⟩ => ⟨.int (a + i * c), ?_, .inl ⟨t, ev⟩⟩⟩
    simp [rangeI, hi]
  self := fun A s P E hS hP => wpAny_pyIter_rangeiter hS hP
  ex := fun i h hS b hb => by rw [List.mem_singleton.mp hb]; exact ⟨_, hS⟩
theorem it_rangeRef {target : Expr} {Q : List D → VM → Prop} {s₁ : Shared} {r : Addr} {a b c : Int} {t u v : Tok} (x : St G en V Z al s.heap) (k : ∀ b o, s.heap.get? b = some o → s₁.heap.get? b = some o) (hs : ∃ h tk, s₁ = { s with heap := h, toks := tk })
    (hr : IsRange s₁.heap r a b c t u v) (hsm : Builtin.Range.small a b c = true) (ht : isTupT target = false) (hl : Builtin.Range.rangeSize a b c ≤ 2 ^ 20) (h0 : 0 ≤ Builtin.Range.rangeSize a b c)
    (q : Q ((rangeI a c (Builtin.Range.rangeSize a b c).toNat).map D.int) V) :
    wpAny (model G.prog G.w) A (pyIter (.ref r)) (ItP G en target V Z al s Q) E s₁ := by
  obtain ⟨h, tk, rfl⟩ := hs
  refine wpAny_pyIter_range hr hsm ?_
  obtain ⟨m, hm⟩ := Int.eq_ofNat_of_zero_le h0
  rw [hm] at q ⊢
  refine ItP.newK (S := fun i h' => IsRangeIter h' h.objs.size (a + (i : Nat) * c) ((m : Int) - (i : Nat)) c) x (fun b o e => Heap.get?_push_of_some _ (k b o e)) (itr_range ht) ?_ (fun b hb => ?_) (fun b hb => ?_) (by simp [rangeI]; omega) q
  · show _ = _
    refine (Heap.get?_push_size _ rfl).trans ?_
    simp [rawInt]
  all_goals
    have hn : s.heap.get? h.objs.size = none := by
      cases e : s.heap.get? h.objs.size with
      | none => rfl
      | some o => exact absurd (Heap.lt_size (k _ o e)) (Nat.lt_irrefl _)
    rw [List.mem_singleton.mp hb]
  · exact .inr hn
  · exact hn
theorem rangeSize1 (a b : Int) : Builtin.Range.rangeSize a b 1 = ((b - a).toNat : Int) := by rw [rangeSize_one]; split <;> omega
theorem itc_range1 {target : Expr} {k : Int} {Q : List D → VM → Prop} (h1 : -(2 ^ 20) ≤ k ∧ k ≤ 2 ^ 20) (q : Q ((rangeI 0 1 k.toNat).map D.int) V) (ht : isTupT target = false := by rfl) : ItC G n (.type "range") target [.int k] V Q :=
  fun en A E s Z al vs rm x r => by
    obtain ⟨v, r', rfl, ⟨t, rfl⟩, hr⟩ := r
    rw [show r' = [] from hr]
    refine call_range_1 (it_rangeRef x (fun b o e => Heap.get?_push_of_some _ e) ⟨_, _, rfl⟩ (Heap.get?_push_size _ rfl) (small_one (by decide) (by decide) (by omega) (by omega)) ht ?_ ?_ ?_)
    · rw [rangeSize1]; omega
    · rw [rangeSize1]; omega
    · rw [rangeSize1, Int.toNat_natCast, Int.sub_zero]; exact q
theorem itc_range3 {target : Expr} {a b c : Int} {Q : List D → VM → Prop} (h1 : 0 ≤ a ∧ a ≤ 2 ^ 20 ∧ -(2 ^ 20) ≤ b ∧ b ≤ 2 ^ 20 ∧ 0 < c ∧ c ≤ 2 ^ 20) (q : Q ((rangeI a c (Builtin.Range.rangeSize a b c).toNat).map D.int) V) (ht : isTupT target = false := by rfl) :
    ItC G n (.type "range") target [.int a, .int b, .int c] V Q :=
  fun en A E s Z al vs rm x r => by
    obtain ⟨v, r', rfl, ⟨t, rfl⟩, w, r'', rfl, ⟨u, rfl⟩, y, r3, rfl, ⟨u', rfl⟩, hr⟩ := r
    rw [show r3 = [] from hr]
    have hsz : 0 ≤ Builtin.Range.rangeSize a b c ∧ Builtin.Range.rangeSize a b c ≤ 2 ^ 20 := by
      unfold Builtin.Range.rangeSize
      rw [if_pos h1.2.2.2.2.1]
      split
      · have e1 : 0 ≤ (b - a - 1) / c := Int.ediv_nonneg (by omega) (by omega)
        have e2 : (b - a - 1) / c ≤ b - a - 1 := Int.ediv_le_self c (by omega)
        omega
      · omega
    have hsm : Builtin.Range.small a b c = true := by
      unfold Builtin.Range.small
      simp only [Builtin.Range.rangeFitsLong, Bool.and_eq_true, Bool.or_eq_true, decide_eq_true_eq, beq_iff_eq, show c > 0 from h1.2.2.2.2.1, if_true]
      omega
    exact call_range_3 (by omega) (it_rangeRef x (fun b o e => Heap.get?_push_of_some _ e) ⟨_, _, rfl⟩ (Heap.get?_push_size _ rfl) hsm ht hsz.2 hsz.1 q) (.inl (PyProof.noPylong_small (by omega)))

-- reversed
theorem itc_rev {target : Expr} {xs : List D} {Q : List D → VM → Prop} (hl : xs.length ≤ 2 ^ 20) (q : Q xs.reverse V) (ht : isTupT target = false := by rfl) : ItC G n (.type "reversed") target [.list xs] V Q :=
  fun en A E s Z al vs rm x r => by
    obtain ⟨v, r', rfl, ⟨ax, ws, rfl, z, rs⟩, hr⟩ := r
    rw [show r' = [] from hr]
    have hL := z.list x
    have hne : ax ≠ s.heap.objs.size := by obtain ⟨o, e, _⟩ := hL; exact Nat.ne_of_lt (Heap.lt_size e)
    have hsz : ws.toArray.size = xs.length := by simp [rs.len]
    have hI := Heap.get?_push_size s.heap (o := revObj ax ((ws.toArray.size : Int) - 1)) rfl
    have k : ∀ b o, s.heap.get? b = some o → (s.heap.push (revObj ax ((ws.toArray.size : Int) - 1))).get? b = some o := fun b o e => Heap.get?_push_of_some _ e
    refine call_reversed_list hL (wpAny_pyIter_revIter (i := (ws.toArray.size : Int) - 1) ⟨_, hI, rfl, rfl⟩ ?_)
    refine ItP.newK (tk := s.toks) (fp := [s.heap.objs.size, ax]) (wr := [s.heap.objs.size]) (items := xs.reverse) (S := fun i h => i ≤ ws.toArray.size ∧ h.IsRevIter s.heap.objs.size ax ((ws.toArray.size : Int) - 1 - (i : Int)) ∧ h.IsList ax ws.toArray) x k ⟨fun A' hA => ?_, fun A' s' P' E' hS hP => wpAny_pyIter_revIter hS.2.1 hP, fun i h hS b hb => ?_⟩ ?_ (fun b hb => ?_) (fun b hb => ?_) (by simpa using hl) q
    · have W := KTurns.ofWalks (target := target) (Walks.listRev (prog := G.prog) (w := G.w) hA s.heap.objs.size ax hne ws.toArray).bound fun i v s' Q' E' _ hQ => tupGo_plain ht hQ
      have e : xs.reverse.length = ws.toArray.size := by simp [rs.len]
      rw [e]
      refine ⟨_, _, W, fun i v h hP => ?_⟩
      obtain ⟨hi, hP⟩ := hP
      have hi' : i < xs.length := by rw [← hsz]; exact hi
      have hj : xs.length - 1 - i < xs.length := by omega
      obtain ⟨w, ew, rw'⟩ := rs.get (xs.length - 1 - i) _ (List.getElem?_eq_getElem hj)
      rw [hsz] at hP
      have : ws.toArray[xs.length - 1 - i]? = some w := by simpa using ew
      rw [hP] at this; cases this
      refine ⟨xs[xs.length - 1 - i], ?_, .inl rw'⟩
      rw [List.getElem?_reverse hi', List.getElem?_eq_getElem hj]
    · rcases List.mem_cons.mp hb with rfl | hb
      · obtain ⟨o, ho, _⟩ := hS.2.1; exact ⟨o, ho⟩
      · rw [List.mem_singleton.mp hb]; obtain ⟨o, ho, _⟩ := hS.2.2; exact ⟨o, ho⟩
    · refine ⟨Nat.zero_le _, ?_, hL.push _⟩
      rw [show (ws.toArray.size : Int) - 1 - ((0 : Nat) : Int) = (ws.toArray.size : Int) - 1 by omega]
      exact ⟨_, hI, rfl, rfl⟩
    · rcases List.mem_cons.mp hb with rfl | hb
      · exact .inr (get_size _)
      · rw [List.mem_singleton.mp hb]; obtain ⟨o, n', e, _⟩ := z; exact .inl ⟨o, e⟩
    · rw [List.mem_singleton.mp hb]; exact get_size _
end
end Mine
end

section
open PySem PySem.W PyProof.Rows PySem.Calls
namespace Mine
section
variable {G : GC} {n : Nat} {sc : Scope} {en : Env} {V V' V'' V₀ : VM} {Z Z' Z'' Z₀ : Zm} {al al' al'' al₀ : Str → Addr} {h h' h'' h₀ : Heap} {s s' s'' s₀ s₁ : Shared} {A : Around} {E : Value → Shared → Prop}

/-- the rows of enumerate -/
def enumI (xs : List D) : List D := xs.zipIdx.map fun p => .tup [.int p.2, p.1]
theorem enumI_get {xs : List D} {i : Nat} {d : D} (e : xs[i]? = some d) : (enumI xs)[i]? = some (.tup [.int i, d]) := by
  simp [enumI, List.getElem?_zipIdx, e]
theorem itc_enum {es : List Expr} {kk : Nat} {tp : Pos} {xs : List D} {Q : List D → VM → Prop} (hl : xs.length ≤ 2 ^ 20) (q : Q (enumI xs) V) : ItC G n (.type "enumerate") (.Tuple es kk tp) [.list xs] V Q :=
  fun en A E s Z al vs rm x r => by
    obtain ⟨v, r', rfl, ⟨ax, ws, rfl, z, rs⟩, hr⟩ := r
    rw [show r' = [] from hr]
    have hL := z.list x
    have hax : ax < s.heap.objs.size := by obtain ⟨o, e, _⟩ := hL; exact Heap.lt_size e
    have hsz : ws.toArray.size = xs.length := by simp [rs.len]
    refine call_enumerate_list hL fun h' he hit hs' k => ?_
    refine wpAny_pyIter_enum he ?_
    have hL' : h'.IsList ax ws.toArray := hL.at fun o e => k _ o e
    have n0 : s.heap.get? s.heap.objs.size = none := get_size _
    have n1 : s.heap.get? (s.heap.objs.size + 1) = none := by
      cases e : s.heap.get? (s.heap.objs.size + 1) with
      | none => rfl
      | some o => exact absurd (Heap.lt_size e) (Nat.not_lt.mpr (Nat.le_succ _))
    have h1 : s.heap.objs.size + 1 ≠ s.heap.objs.size := Nat.succ_ne_self _
    have h2 : ax ≠ s.heap.objs.size + 1 := Nat.ne_of_lt (Nat.lt_succ_of_lt hax)
    have h3 : ax ≠ s.heap.objs.size := Nat.ne_of_lt hax
    generalize s.heap.objs.size = b at *
    refine ItP.newK (tk := s.toks) (fp := [b + 1, b, ax]) (wr := [b + 1, b]) (items := enumI xs) (S := fun i h => (∃ old, IsEnum h (b + 1) b i old) ∧ h.IsListIter b ax i ∧ h.IsList ax ws.toArray) x k
      ⟨fun A' hA => ?_, fun A' s' P' E' hS hP => by obtain ⟨⟨old, ho⟩, _⟩ := hS; exact wpAny_pyIter_enum ho hP, fun i h hS b' hb => ?_⟩ ⟨⟨_, he⟩, hit, hL'⟩ (fun b' hb => ?_) (fun b' hb => ?_) (by simpa [enumI] using hl) q
    · have W := KTurns.ofWalksU (elts := es) (k := kk) (pos := tp) (WalksT.enumerate (prog := G.prog) (w := G.w) hA (b + 1) b ax h1 h2 h3 ws.toArray).toU.bound
      have e : (enumI xs).length = ws.toArray.size := by simp [enumI, rs.len]
      rw [e]
      refine ⟨_, _, W, fun i v h hr1 => ?_⟩
      obtain ⟨T, vals, ev, ⟨hi, t, y, hy, hv⟩, hT⟩ := hr1
      have hi' : i < xs.length := by rw [← hsz]; exact hi
      obtain ⟨w, ew, rw'⟩ := rs.get i _ (List.getElem?_eq_getElem hi')
      have : ws.toArray[i]? = some w := by simpa using ew
      rw [hy] at this; cases this
      refine ⟨_, enumI_get (List.getElem?_eq_getElem hi'), .inr ⟨rfl, _, T, vals, rfl, ev, hT, ?_⟩⟩
      rw [hv]
      exact ⟨_, _, rfl, ⟨t, rfl⟩, _, _, rfl, rw', rfl⟩
    · obtain ⟨⟨old, ho⟩, ⟨o1, ho1, _⟩, ⟨o2, ho2, _⟩⟩ := hS
      simp only [List.mem_cons, List.not_mem_nil, or_false] at hb
      rcases hb with rfl | rfl | rfl
      · exact ⟨_, ho⟩
      · exact ⟨_, ho1⟩
      · exact ⟨_, ho2⟩
    · simp only [List.mem_cons, List.not_mem_nil, or_false] at hb
      rcases hb with rfl | rfl | rfl
      · exact .inr n1
      · exact .inr n0
      · obtain ⟨o, n', e, _⟩ := z; exact .inl ⟨o, e⟩
    · simp only [List.mem_cons, List.not_mem_nil, or_false] at hb
      rcases hb with rfl | rfl
      · exact n1
      · exact n0
/-- the rows of zip -/
def zipI (xs ys : List D) : List D := (xs.zip ys).map fun p => .tup [p.1, p.2]
theorem itc_zip {es : List Expr} {kk : Nat} {tp : Pos} {xs ys : List D} {Q : List D → VM → Prop} (hl : xs.length ≤ 2 ^ 20) (q : Q (zipI xs ys) V) : ItC G n (.type "zip") (.Tuple es kk tp) [.list xs, .list ys] V Q :=
  fun en A E s Z al vs rm x r => by
    obtain ⟨v, r', rfl, ⟨a1, ws, rfl, z1, rs⟩, v2, r2, rfl, ⟨a2, us, rfl, z2, rs2⟩, hr⟩ := r
    rw [show r2 = [] from hr]
    have hL1 := z1.list x
    have hL2 := z2.list x
    have ha1 : a1 < s.heap.objs.size := by obtain ⟨o, e, _⟩ := hL1; exact Heap.lt_size e
    have ha2 : a2 < s.heap.objs.size := by obtain ⟨o, e, _⟩ := hL2; exact Heap.lt_size e
    refine call_zip_2 hL1 hL2 fun h' hz hTI hTO hi1 hi2 hs' k => ?_
    refine wpAny_pyIter_zip hz ?_
    have nn : ∀ j, s.heap.get? (s.heap.objs.size + j) = none := fun j => by
      cases e : s.heap.get? (s.heap.objs.size + j) with
      | none => rfl
      | some o => exact absurd (Heap.lt_size e) (Nat.not_lt.mpr (Nat.le_add_right _ _))
    have hL1' : h'.IsList a1 ws.toArray := hL1.at fun o e => k _ o e
    have hL2' : h'.IsList a2 us.toArray := hL2.at fun o e => k _ o e
    have n0 := nn 0
    have n1 := nn 1
    have n2 := nn 2
    have n3 := nn 3
    have n4 := nn 4
    rw [Nat.add_zero] at n0
    generalize s.heap.objs.size = b at *
    have D : ZipApart (b + 4) (b + 2) (b + 3) b (b + 1) a1 a2 := by
      have ha1' : @LT.lt Nat _ a1 b := ha1
      have ha2' : @LT.lt Nat _ a2 b := ha2
      constructor <;> (refine neN ?_; lia)
    refine ItP.newK (tk := s.toks) (fp := [b + 4, b + 2, b + 3, b, b + 1, a1, a2]) (wr := [b + 4, b + 3, b, b + 1]) (items := zipI xs ys)
      (S := fun i h => IsZip h (b + 4) (b + 2) (b + 3) .none ∧ IsPair h (b + 2) (.ref b) (.ref (b + 1)) ∧ (∃ a c, IsPair h (b + 3) a c) ∧ h.IsListIter b a1 i ∧ h.IsListIter (b + 1) a2 i ∧ h.IsList a1 ws.toArray ∧ h.IsList a2 us.toArray) x k
      ⟨fun A' hA => ?_, fun A' s' P' E' hS hP => wpAny_pyIter_zip hS.1 hP, fun i h hS b' hb => ?_⟩ ⟨hz, hTI, ⟨_, _, hTO⟩, hi1, hi2, hL1', hL2'⟩ (fun b' hb => ?_) (fun b' hb => ?_) (by simp [zipI]; lia) q
    · have W := KTurns.ofWalksU (elts := es) (k := kk) (pos := tp) (WalksT.zip2 (prog := G.prog) (w := G.w) hA (b + 4) (b + 2) (b + 3) b (b + 1) a1 a2 D ws.toArray us.toArray).toU.bound
      have e : (zipI xs ys).length = min ws.toArray.size us.toArray.size := by simp [zipI, rs.len, rs2.len]
      rw [e]
      refine ⟨_, _, W, fun i v h hr2 => ?_⟩
      obtain ⟨T, vals, ev, ⟨hi, y1, y2, hy1, hy2, hv⟩, hT⟩ := hr2
      have hi1' : i < xs.length := by have := rs.len; simp only [List.size_toArray] at hi; lia
      have hi2' : i < ys.length := by have := rs2.len; simp only [List.size_toArray] at hi; lia
      obtain ⟨w1, ew1, rw1⟩ := rs.get i _ (List.getElem?_eq_getElem hi1')
      obtain ⟨w2, ew2, rw2⟩ := rs2.get i _ (List.getElem?_eq_getElem hi2')
      have t1 : ws.toArray[i]? = some w1 := by simpa using ew1
      have t2 : us.toArray[i]? = some w2 := by simpa using ew2
      rw [hy1] at t1; cases t1
      rw [hy2] at t2; cases t2
      refine ⟨.tup [xs[i], ys[i]], ?_, .inr ⟨rfl, _, T, vals, rfl, ev, hT, ?_⟩⟩
      · rw [List.getElem?_eq_getElem (by simp [zipI]; lia)]; simp [zipI]
      · rw [hv]; exact ⟨_, _, rfl, rw1, _, _, rfl, rw2, rfl⟩
    · obtain ⟨e1, e2, ⟨_, _, e3⟩, ⟨o4, e4, _⟩, ⟨o5, e5, _⟩, ⟨o6, e6, _⟩, ⟨o7, e7, _⟩⟩ := hS
      simp only [List.mem_cons, List.not_mem_nil, or_false] at hb
      rcases hb with rfl | rfl | rfl | rfl | rfl | rfl | rfl
      · exact ⟨_, e1⟩
      · exact ⟨_, e2⟩
      · exact ⟨_, e3⟩
      · exact ⟨_, e4⟩
      · exact ⟨_, e5⟩
      · exact ⟨_, e6⟩
      · exact ⟨_, e7⟩
    · simp only [List.mem_cons, List.not_mem_nil, or_false] at hb
      rcases hb with rfl | rfl | rfl | rfl | rfl | rfl | rfl
      · exact .inr n4
      · exact .inr n2
      · exact .inr n3
      · exact .inr n0
      · exact .inr n1
      · obtain ⟨o, n', e, _⟩ := z1; exact .inl ⟨o, e⟩
      · obtain ⟨o, n', e, _⟩ := z2; exact .inl ⟨o, e⟩
    · simp only [List.mem_cons, List.not_mem_nil, or_false] at hb
      rcases hb with rfl | rfl | rfl | rfl
      · exact n4
      · exact n3
      · exact n0
      · exact n1
end
end Mine
end

section
open PySem PySem.W PyProof.Rows PySem.Calls
namespace Mine

-- scopes of comprehensions
def relabelS (scope sc : Scope) : Scope :=
  { scope with names := scope.names.map fun (n, k) => if (k == .free && sc.kind == .function && sc.names.lookup n == some .cell) then (n, .cell) else (n, k) }
def compOk (scope sc : Scope) : Bool :=
  scope.kind == .function && scope.names.all (fun p => scope.names.lookup p.1 == some p.2) &&
  scope.names.all (fun p => p.2 != .free || (sc.names.lookup p.1 == some .cell || sc.names.lookup p.1 == some .free))
def capV (scope : Scope) (V : VM) : VM := V.filter fun p => scope.names.lookup p.1 == some .free
def backV (scope : Scope) (V Vn : VM) : VM := V.map fun p => (p.1, if scope.names.lookup p.1 == some .free then (Vn.lookup p.1).getD p.2 else p.2)

theorem lookup_relabel {scope sc : Scope} {x : Str} : (relabelS scope sc).names.lookup x = (scope.names.lookup x).map fun k => if (k == .free && sc.kind == .function && sc.names.lookup x == some .cell) then .cell else k := by
  show List.lookup x (scope.names.map _) = _
  generalize scope.names = l
  induction l with
  | nil => rfl
  | cons p r ih =>
    obtain ⟨y, k⟩ := p
    rw [List.map_cons]
    show List.lookup x ((if (k == NameKind.free && sc.kind == .function && sc.names.lookup y == some .cell) = true then (y, NameKind.cell) else (y, k)) :: _) = _
    by_cases hx : x = y
    · subst hx
      split <;> simp_all
    · have hb : (x == y) = false := beq_eq_false_iff_ne.mpr hx
      rw [List.lookup_cons (k := y), hb]
      split <;> (rw [List.lookup_cons, hb]; exact ih)
theorem lookup_capV {scope : Scope} {V : VM} {x : Str} : (capV scope V).lookup x = if scope.names.lookup x == some .free then V.lookup x else none := by
  unfold capV
  induction V with
  | nil => simp
  | cons p r ih =>
    obtain ⟨y, v⟩ := p
    rw [List.filter_cons]
    by_cases hx : x = y
    · subst hx
      by_cases hc : (scope.names.lookup x == some .free) = true
      · simp only [hc, if_true, List.lookup_cons, beq_self_eq_true]
      · simp only [hc, if_false] at ih ⊢; exact ih
    · have hb : (x == y) = false := beq_eq_false_iff_ne.mpr hx
      rw [List.lookup_cons (k := y), hb]
      by_cases hc : (scope.names.lookup y == some .free) = true
      · simp only [hc, if_true, List.lookup_cons, hb]; exact ih
      · simp only [hc, if_false]; exact ih
theorem lookup_backV {scope : Scope} {V Vn : VM} {x : Str} : (backV scope V Vn).lookup x = (V.lookup x).map fun v => if scope.names.lookup x == some .free then (Vn.lookup x).getD v else v := by
  unfold backV
  induction V with
  | nil => simp
  | cons p r ih =>
    obtain ⟨y, v⟩ := p
    rw [List.map_cons]
    by_cases hx : x = y
    · subst hx; simp
    · have hb : (x == y) = false := beq_eq_false_iff_ne.mpr hx
      rw [List.lookup_cons, hb, List.lookup_cons, hb]; exact ih

section
variable {W : Str → Prop} {G : GC} {n : Nat} {sc scope : Scope} {en : Env} {V V' V'' V₀ : VM} {Z Z' Z'' Z₀ : Zm} {al al' al'' al₀ : Str → Addr} {h h' h'' h₀ : Heap} {s s' s'' s₀ s₁ : Shared} {A : Around} {E : Value → Shared → Prop}

theorem relabel_eq (ek : EnvOk en sc) : relabel scope en = relabelS scope sc := by unfold relabel relabelS Env.kindOf; rw [ek.scope]
theorem compOk_kind (c : compOk scope sc = true) : scope.kind = .function := by
  unfold compOk at c; simp only [Bool.and_eq_true] at c; exact beq_iff_eq.mp c.1.1
theorem compOk_names (c : compOk scope sc = true) : ∀ p ∈ scope.names, scope.names.lookup p.1 = some p.2 := fun p hp => by
  unfold compOk at c; simp only [Bool.and_eq_true, List.all_eq_true] at c; exact beq_iff_eq.mp (c.1.2 p hp)
theorem compOk_free (c : compOk scope sc = true) : ∀ p ∈ scope.names, p.2 = .free → sc.names.lookup p.1 = some .cell ∨ sc.names.lookup p.1 = some .free := fun p hp e => by
  unfold compOk at c; simp only [Bool.and_eq_true, List.all_eq_true] at c
  have := c.2 p hp
  rw [e] at this
  simpa using this

theorem closure_of (names : List (Str × NameKind)) : ∀ (acc : List (Str × Addr)), (∀ p ∈ names, p.2 = .free → ∃ c, en.cells.lookup p.1 = some c) → (∀ x c, acc.lookup x = some c → en.cells.lookup x = some c) →
    ∃ cl, (forIn names acc fun (x : Str × NameKind) (cs : List (Str × Addr)) => (match x with | (name, kind) => if kind == .free then (do let a ← cellOf en name; pure (ForInStep.yield ((name, a) :: cs))) else pure (ForInStep.yield cs) : Sem (ForInStep (List (Str × Addr))))) = pure cl ∧
      (∀ x c, cl.lookup x = some c → en.cells.lookup x = some c) ∧ (∀ x, ((∃ c, acc.lookup x = some c) ∨ (x, .free) ∈ names) → ∃ c, cl.lookup x = some c) := by
  induction names with
  | nil => exact fun acc _ h => ⟨acc, rfl, h, fun x hx => hx.elim id fun h => nomatch h⟩
  | cons p r ih =>
    obtain ⟨x, k⟩ := p
    intro acc hf ha
    by_cases hk : (k == NameKind.free) = true
    · have ek := beq_iff_eq.mp hk
      obtain ⟨c, hc⟩ := hf (x, k) List.mem_cons_self ek
      obtain ⟨cl, h1, h2, h3⟩ := ih ((x, c) :: acc) (fun p hp => hf p (List.mem_cons_of_mem _ hp)) (fun y d hd => by
        rw [List.lookup_cons] at hd
        by_cases hy : y = x
        · subst hy; simp at hd; rw [← hd]; exact hc
        · have hb : (y == x) = false := beq_eq_false_iff_ne.mpr hy
          rw [hb] at hd; exact ha y d hd)
      refine ⟨cl, ?_, h2, fun y hy => h3 y ?_⟩
      · rw [List.forIn_cons]
        simp only [hk, if_true]
        rw [show cellOf en x = pure c by unfold cellOf; rw [hc]]
        exact h1
      · by_cases hyx : y = x
        · subst hyx; exact .inl ⟨c, by simp⟩
        · have hb : (y == x) = false := beq_eq_false_iff_ne.mpr hyx
          rcases hy with ⟨d, hd⟩ | hy
          · exact .inl ⟨d, by rw [List.lookup_cons, hb]; exact hd⟩
          · rcases List.mem_cons.mp hy with e | hy
            · exact absurd (Prod.mk.inj e).1 hyx
            · exact .inr hy
    · obtain ⟨cl, h1, h2, h3⟩ := ih acc (fun p hp => hf p (List.mem_cons_of_mem _ hp)) ha
      refine ⟨cl, ?_, h2, fun y hy => h3 y ?_⟩
      · rw [List.forIn_cons]
        simp only [hk]
        exact h1
      · rcases hy with hy | hy
        · exact .inl hy
        · rcases List.mem_cons.mp hy with e | hy
          · rw [← (Prod.mk.inj e).2] at hk; exact absurd rfl hk
          · exact .inr hy
theorem closureFor_of (ek : EnvOk en sc) (c : compOk scope sc = true) : ∃ cl, closureFor scope en = pure cl ∧ (∀ x c, cl.lookup x = some c → en.cells.lookup x = some c) ∧ (∀ x, scope.names.lookup x = some .free → ∃ c, cl.lookup x = some c) := by
  obtain ⟨cl, h1, h2, h3⟩ := closure_of (en := en) scope.names [] (fun p hp e => ek.cells p.1 (compOk_free c p hp e)) (fun _ _ e => by cases e)
  refine ⟨cl, ?_, h2, fun x hx => h3 x (.inr (mem_of_lookup hx))⟩
  unfold closureFor
  show (forIn scope.names [] _ >>= fun cs => pure cs : Sem _) = _
  rw [show (forIn scope.names [] fun (x : Str × NameKind) (cs : List (Str × Addr)) => (match x with | (name, kind) => if (kind == .free) = true then (do let a ← cellOf en name; pure (ForInStep.yield ((name, a) :: cs))) else pure (ForInStep.yield cs) : Sem (ForInStep (List (Str × Addr))))) = pure cl from h1]
  rfl

theorem cellsFrom_append : ∀ (names : List (Str × NameKind)) (k : Nat) (acc : List (Str × Addr)), cellsFrom k names acc = cellsFrom k names [] ++ acc
  | [], _, _ => rfl
  | (x, kd) :: r, k, acc => by
    unfold cellsFrom
    split
    · rw [cellsFrom_append r (k + 1) ((x, k) :: acc), cellsFrom_append r (k + 1) [(x, k)], List.append_assoc]; rfl
    · exact cellsFrom_append r k acc
theorem cellsFrom_has : ∀ (names : List (Str × NameKind)) (k : Nat) (acc : List (Str × Addr)) (x : Str), ((∃ c, acc.lookup x = some c) ∨ (x, .cell) ∈ names) → ∃ c, (cellsFrom k names acc).lookup x = some c
  | [], _, _, _, h => h.elim id fun h => nomatch h
  | (y, kd) :: r, k, acc, x, h => by
    unfold cellsFrom
    split
    · rename_i hk
      refine cellsFrom_has r (k + 1) _ x ?_
      by_cases hxy : x = y
      · subst hxy; exact .inl ⟨k, by simp⟩
      · have hb : (x == y) = false := beq_eq_false_iff_ne.mpr hxy
        rcases h with ⟨d, hd⟩ | h
        · exact .inl ⟨d, by rw [List.lookup_cons, hb]; exact hd⟩
        · rcases List.mem_cons.mp h with e | h
          · exact absurd (Prod.mk.inj e).1 hxy
          · exact .inr h
    · rename_i hk
      refine cellsFrom_has r k acc x (h.imp id fun h => ?_)
      rcases List.mem_cons.mp h with e | h
      · rw [← (Prod.mk.inj e).2] at hk; exact absurd rfl hk
      · exact h
theorem cellsFrom_mem : ∀ (names : List (Str × NameKind)) (k : Nat) (acc : List (Str × Addr)) (x : Str) (c : Addr), (x, c) ∈ cellsFrom k names acc → (x, c) ∈ acc ∨ (x, .cell) ∈ names
  | [], _, _, _, _, h => .inl h
  | (y, kd) :: r, k, acc, x, c, h => by
    unfold cellsFrom at h
    split at h
    · rename_i hk
      rcases cellsFrom_mem r (k + 1) _ x c h with h | h
      · rcases List.mem_cons.mp h with e | h
        · exact .inr (by rw [(Prod.mk.inj e).1, ← beq_iff_eq.mp hk]; exact List.mem_cons_self)
        · exact .inl h
      · exact .inr (List.mem_cons_of_mem _ h)
    · exact (cellsFrom_mem r k acc x c h).imp id (List.mem_cons_of_mem _)

/-- the cells of a comprehension's env: new ones, and those of the names from outside -/
structure CCells (scope : Scope) (en : Env) (h₂ h₃ : Heap) (cells : List (Str × Addr)) : Prop where
  new : ∀ x c, scope.names.lookup x = some .cell → cells.lookup x = some c → h₂.get? c = none ∧ h₃.IsCell c none
  old : ∀ x c, scope.names.lookup x ≠ some .cell → cells.lookup x = some c → en.cells.lookup x = some c
  hasN : ∀ x, scope.names.lookup x = some .cell → ∃ c, cells.lookup x = some c
  hasF : ∀ x, scope.names.lookup x = some .free → ∃ c, cells.lookup x = some c
  apart : ∀ x y c, scope.names.lookup x = some .cell → scope.names.lookup y = some .cell → cells.lookup x = some c → cells.lookup y = some c → x = y

theorem size_fresh {h : Heap} {c : Addr} (k : h.objs.size ≤ c) : h.get? c = none := by
  cases e : h.get? c with
  | none => rfl
  | some o => exact absurd (Heap.lt_size e) (Nat.not_lt.mpr k)
theorem lookup_append {α : Type} : ∀ {l l' : List (Str × α)} {x : Str}, (l ++ l').lookup x = (l.lookup x).or (l'.lookup x)
  | [], _, _ => by simp
  | (y, v) :: r, l', x => by
    rw [List.cons_append, List.lookup_cons, List.lookup_cons]
    cases x == y
    · exact lookup_append
    · rfl
theorem env_comp {cl : List (Str × Addr)} {qual : Str} {Q : Env → Shared → Prop} (ek : EnvOk en sc) (cok : compOk scope sc = true) (x₂ : St G en V Z al s.heap)
    (h1 : ∀ x c, cl.lookup x = some c → en.cells.lookup x = some c) (h2 : ∀ x, scope.names.lookup x = some .free → ∃ c, cl.lookup x = some c)
    (q : ∀ cenv h₃, cenv.scope = scope → cenv.globals = en.globals → cenv.builtins = en.builtins → cenv.locals = s.heap.objs.size → h₃.Ns cenv.locals (fun _ => none) → (∀ b o, s.heap.get? b = some o → h₃.get? b = some o) →
      CCells scope en s.heap h₃ cenv.cells → (∀ x c, cenv.cells.lookup x = some c → scope.names.lookup x = some .cell → c ≠ cenv.locals) → Q cenv { s with heap := h₃ }) :
    wpAny (model G.prog G.w) A (newFunctionEnv scope en.globals cl [] qual none .none (some en)) Q E s := by
  simp only [newFunctionEnv, Option.isSome_some, if_true]
  refine wpAny_bind (wpAny_alloc ?_)
  refine wpAny_bind (wpAny_layCells _ (fun name kind cells => by cases hkc : kind == NameKind.cell <;> simp [hkc]) _ _ _ _ ?_)
  have ok := cellsFrom_ok scope.names (s.heap.push { cls := .type "dict", data := .dict #[] }) (s.heap.objs.size + 1) [] ⟨fun _ _ hm => (nomatch hm), List.Pairwise.nil⟩ (by rw [Heap.size_push]; exact Nat.le_refl _)
  rw [Heap.size_push] at ok
  rw [show ({ s with heap := s.heap.push { cls := .type "dict", data := .dict #[] } } : Shared).heap.objs.size = s.heap.objs.size + 1 from Heap.size_push ..]
  refine wpAny_bind (wpAny_pure (wpAny_pure ?_))
  have sz : ∀ c, s.heap.objs.size + 1 ≤ c → s.heap.get? c = none := fun c hc => size_fresh (Nat.le_of_succ_le hc)
  have up : ∀ x c, (cellsFrom (s.heap.objs.size + 1) scope.names cl).lookup x = some c → (cellsFrom (s.heap.objs.size + 1) scope.names []).lookup x = some c ∨ ((cellsFrom (s.heap.objs.size + 1) scope.names []).lookup x = none ∧ cl.lookup x = some c) := fun x c e => by
    rw [cellsFrom_append, lookup_append] at e
    cases e' : (cellsFrom (s.heap.objs.size + 1) scope.names []).lookup x with
    | some d => rw [e'] at e; left; simpa using e
    | none => rw [e'] at e; right; exact ⟨rfl, by simpa using e⟩
  have memN : ∀ x c, (cellsFrom (s.heap.objs.size + 1) scope.names []).lookup x = some c → scope.names.lookup x = some .cell := fun x c e => by
    rcases cellsFrom_mem _ _ _ _ _ (mem_of_lookup e) with h | h
    · cases h
    · exact compOk_names cok (x, .cell) h
  have upN : ∀ x c, scope.names.lookup x = some .cell → (cellsFrom (s.heap.objs.size + 1) scope.names cl).lookup x = some c → (cellsFrom (s.heap.objs.size + 1) scope.names []).lookup x = some c := fun x c hx e => by
    rcases up x c e with h | ⟨h, h'⟩
    · exact h
    · obtain ⟨d, hd⟩ := cellsFrom_has scope.names (s.heap.objs.size + 1) [] x (.inr (mem_of_lookup hx))
      rw [h] at hd; cases hd
  refine q _ (pushCells (s.heap.push { cls := .type "dict", data := .dict #[] }) scope.names) rfl rfl rfl rfl ((Heap.Ns.new s.heap (.type "dict")).keeps (pushCells_keeps _ _)) (fun b o e => pushCells_keeps _ _ b o (Heap.get?_push_of_some _ e)) ⟨?_, ?_, ?_, ?_, ?_⟩ ?_
  · intro x c hx e
    have := ok.empty x c (mem_of_lookup (upN x c hx e))
    exact ⟨sz c this.2, this.1⟩
  · intro x c hx e
    rcases up x c e with h | ⟨_, h⟩
    · exact absurd (memN x c h) hx
    · exact h1 x c h
  · intro x hx
    exact cellsFrom_has _ _ _ x (.inr (mem_of_lookup hx))
  · intro x hx
    exact cellsFrom_has _ _ _ x (.inl (h2 x hx))
  · intro x y c hx hy ex ey
    exact name_of_addr ok.apart (mem_of_lookup (upN x c hx ex)) (mem_of_lookup (upN y c hy ey))
  · intro x c e hx ec
    have := (ok.empty x c (mem_of_lookup (upN x c hx e))).2
    rw [show c = s.heap.objs.size from ec] at this
    exact absurd this (Nat.not_succ_le_self _)
end
end Mine
end

section
open PySem PySem.W PyProof.Rows PySem.Calls
namespace Mine
section
variable {W : Str → Prop} {G : GC} {n : Nat} {sc scope : Scope} {en ce : Env} {V V' V'' V₀ V₁ Vc : VM} {Z Z' Z'' Z₀ Z₁ : Zm} {al al' al'' al₀ : Str → Addr} {h h' h'' h₀ h₂ h₃ : Heap} {s s' s'' s₀ s₁ : Shared} {A : Around} {E : Value → Shared → Prop} {fp wr : List Addr} {Da : Addr} {acc : List D}

/-- where a comprehension stands -/
structure CS (G : GC) (ce : Env) (Vc : VM) (Z₁ : Zm) (al : Str → Addr) (h₂ : Heap) (fp wr : List Addr) (Da : Addr) (V : VM) (Z : Zm) (h : Heap) (acc : List D) : Prop where
  z : Z₁.le Z
  zn : ∀ a o, Z a = some o → Z₁ a = some o ∨ WE Vc al a ∨ h₂.get? a = none
  obj : ∀ a o, h₂.get? a = some o → ¬ WE Vc al a → a ∉ wr → h.get? a = some o
  dom : ∀ a o, h₂.get? a = some o → a ∉ wr → ∃ o', h.get? a = some o'
  so : SubOwn Vc V
  st : St G ce V Z al h
  acc : Own Z h Da acc
  live : ∀ b ∈ fp, Live ce V al b
  wz : ∀ b ∈ wr, Z b = none
  dl : Live ce V al Da

theorem CS.ownKeep {V V' : VM} {Z Z' : Zm} {s s' : Shared} (w : Own Z s.heap Da acc) (dl : Live ce V al Da) (hz : Z.le Z') (g : GoS W ce V Z al s V' Z' al s') : Own Z' s'.heap Da acc := by
  obtain ⟨z, vs, m, ho, r⟩ := w
  exact ⟨dl.zgo z g ⟨_, ho⟩, vs, m, g.obj _ _ ho dl.1 dl.2.1 (fun x _ _ => dl.2.2 x), r.mono hz⟩
theorem CS.goS (c : CS G ce Vc Z₁ al h₂ fp wr Da V Z s.heap acc) (g : GoS W ce V Z al s V' Z' al s') (so : SubOwn V V') (st : St G ce V' Z' al s'.heap) (ex : ∀ b ∈ fp, ∃ o, s.heap.get? b = some o) (sub : ∀ b ∈ wr, b ∈ fp) (hC : h₂.get? ce.locals = none)
    (hcw : ∀ x c, W x → ce.kindOf x = some .cell → ce.cells.lookup x = some c → h₂.get? c = none) : CS G ce Vc Z₁ al h₂ fp wr Da V' Z' s'.heap acc where
  z := c.z.trans g.z
  zn := fun a o e => by
    rcases g.zn a o e with e | e | e
    · exact c.zn a o e
    · exact .inr (.inl (c.so.we e))
    · refine .inr (.inr ?_)
      cases e' : h₂.get? a with
      | none => rfl
      | some o' =>
        by_cases hw : a ∈ wr
        · obtain ⟨o'', e''⟩ := ex a (sub a hw); rw [e] at e''; cases e''
        · obtain ⟨o'', e''⟩ := c.dom a o' e' hw; rw [e] at e''; cases e''
  obj := fun a o e w hw => g.obj a o (c.obj a o e w hw) (fun w' => w (c.so.we w')) (fun ea => by rw [ea, hC] at e; cases e) (fun x hx hk hc => by rw [hcw x a hx hk hc] at e; cases e)
  dom := fun a o e hw => let ⟨o', e'⟩ := c.dom a o e hw; g.dom a o' e'
  so := c.so.trans so
  st := st
  acc := CS.ownKeep c.acc c.dl g.z g
  live := fun b hb => (c.live b hb).go g (ex b hb)
  wz := fun b hb => (c.live b (sub b hb)).zgo (c.wz b hb) g (ex b (sub b hb))
  dl := c.dl.go g (let ⟨_, _, _, ho, _⟩ := c.acc; ⟨_, ho⟩)
theorem CS.but (c : CS G ce Vc Z₁ al h₂ fp wr Da V Z h acc) (k : ∀ b o, b ∉ wr → h.get? b = some o → h'.get? b = some o) (sub : ∀ b ∈ wr, b ∈ fp) (hD : Da ∉ wr) : CS G ce Vc Z₁ al h₂ fp wr Da V Z h' acc where
  z := c.z
  zn := c.zn
  obj := fun a o e w hw => k a o hw (c.obj a o e w hw)
  dom := fun a o e hw => let ⟨o', e'⟩ := c.dom a o e hw; ⟨o', k a o' hw e'⟩
  so := c.so
  st := c.st.but k fun b hb => ⟨c.wz b hb, c.live b (sub b hb)⟩
  acc := let ⟨z, vs, m, ho, r⟩ := c.acc; ⟨z, vs, m, k _ _ hD ho, r⟩
  live := c.live
  wz := c.wz
  dl := c.dl
theorem CS.app {y : D} {v : Value} (c : CS G ce Vc Z₁ al h₂ fp wr Da V Z h acc) (hs : Heap.SameBut Da h h') (hD : h₂.get? Da = none) (vs : List Value) (m : Nat) (ho : h'.get? Da = some (Lo (vs ++ [v]) m)) (rv : Reps Z acc vs) (r : Rep Z y v) :
    CS G ce Vc Z₁ al h₂ fp wr Da V Z h' (acc ++ [y]) where
  z := c.z
  zn := c.zn
  obj := fun a o e w hw => (hs.2 a (fun ea => by rw [ea, hD] at e; cases e)).trans (c.obj a o e w hw)
  dom := fun a o e hw => by
    obtain ⟨o', e'⟩ := c.dom a o e hw
    exact ⟨o', (hs.2 a (fun ea => by rw [ea, hD] at e; cases e)).trans e'⟩
  so := c.so
  st := c.st.but (wr := [Da]) (fun b o hb e => (hs.2 b (fun eb => hb (by rw [eb]; exact List.mem_singleton.mpr rfl))).trans e) fun b hb => by rw [List.mem_singleton.mp hb]; exact ⟨c.acc.1, c.dl⟩
  acc := ⟨c.acc.1, _, m, ho, rv.append (.one r)⟩
  live := c.live
  wz := c.wz
  dl := c.dl

theorem capSub : SubOwn V (capV scope V) := fun x ds e => by
  rw [lookup_capV] at e
  split at e
  · exact ⟨ds, e⟩
  · cases e
theorem backSub (so : SubOwn (capV scope V) V') : SubOwn V (backV scope V V') := fun x ds e => by
  rw [lookup_backV] at e
  cases e1 : V.lookup x with
  | none => rw [e1] at e; cases e
  | some v =>
    rw [e1] at e
    simp only [Option.map_some] at e
    split at e
    · rename_i hf
      cases e2 : V'.lookup x with
      | none => rw [e2] at e; cases e; exact ⟨ds, rfl⟩
      | some u =>
        rw [e2] at e; cases e
        obtain ⟨es, e3⟩ := so x ds e2
        rw [lookup_capV, if_pos hf, e1] at e3
        exact ⟨es, e3⟩
    · cases e; exact ⟨ds, rfl⟩

theorem CS.outer (x₂ : St G en V₁ Z₁ al h₂) (ek : EnvOk en sc) (cok : compOk scope sc = true) (es : ce.scope = relabelS scope sc) (CC : CCells scope en h₂ h₃ ce.cells)
    (c : CS G ce (capV scope V₁) Z₁ al h₂ fp wr Da V Z h acc) (hcap : ∀ x v, V₁.lookup x = some v → scope.names.lookup x = some .free → ∃ v', V.lookup x = some v')
    (hwr : ∀ b ∈ wr, Live en V₁ al b) (hwz : ∀ b ∈ wr, Z₁ b = none) : St G en (backV scope V₁ V) Z al h := by
  have nw : ∀ a, (∀ o, h₂.get? a = some o → ∀ xs m, o.data ≠ .seq xs m) → (∃ o, h₂.get? a = some o) → ¬ WE V₁ al a := fun a hd ⟨o, ho⟩ ⟨x, ds, e, ea⟩ => by
    obtain ⟨_, _, vs, m, ho', _⟩ := x₂.own x ds e
    rw [← ea] at ho'
    exact hd _ ho' _ _ rfl
  have keep : ∀ a o, h₂.get? a = some o → ¬ WE V₁ al a → a ∉ wr → h.get? a = some o := fun a o e w hw => c.obj a o e (fun w' => w (capSub.we w')) hw
  have kns : ∀ m, h₂.Ns en.locals m → h.Ns en.locals m := fun m ⟨o, es, ep, e, hd, r⟩ =>
    ⟨o, es, ep, keep _ _ e (nw _ (fun o' e' xs m' hd' => by rw [e] at e'; cases e'; rw [hd] at hd'; cases hd') ⟨o, e⟩) (fun hw => (hwr _ hw).2.1 rfl), hd, r⟩
  have kc : ∀ y d u, en.cells.lookup y = some d → h₂.IsCell d u → h.IsCell d u := fun y d u e ⟨o, e1, hd⟩ =>
    ⟨o, keep _ _ e1 (nw _ (fun o' e' xs m' hd' => by rw [e1] at e'; cases e'; rw [hd] at hd'; cases hd') ⟨o, e1⟩) (fun hw => (hwr _ hw).2.2 y e), hd⟩
  have kl : ∀ y v, Loads en h₂ y v → Loads en h y v := fun y v l => by
    rcases l with ⟨e, m, hm, hw'⟩ | ⟨e, d, hd, hv⟩
    · exact .inl ⟨e, m, kns m hm, hw'⟩
    · exact .inr ⟨e, d, hd, kc y d _ hd hv⟩
  have back : ∀ x v, scope.names.lookup x = some .free → Loads ce h x v → Loads en h x v := fun x v hf l => by
    rcases l with ⟨e, _⟩ | ⟨_, d, hd, hv⟩
    · rw [es, lookup_relabel, hf] at e
      simp only [Option.map_some] at e
      split at e <;> cases e
    · have hd' := CC.old x d (by rw [hf]; simp) hd
      refine .inr ⟨?_, d, hd', hv⟩
      rw [ek.scope]
      exact compOk_free cok (x, .free) (mem_of_lookup hf) rfl
  have zk : ∀ a, Z₁ a = none → ¬ WE V₁ al a → (∃ o, h₂.get? a = some o) → Z a = none := fun a hz w ⟨o, ho⟩ => by
    cases e : Z a with
    | none => rfl
    | some o' =>
      rcases c.zn a o' e with e | e | e
      · rw [hz] at e; cases e
      · exact (w (capSub.we e)).elim
      · rw [ho] at e; cases e
  have lookB : ∀ x v, (backV scope V₁ V).lookup x = some v → (scope.names.lookup x = some .free ∧ V.lookup x = some v ∧ ∃ u, V₁.lookup x = some u) ∨ (scope.names.lookup x ≠ some .free ∧ V₁.lookup x = some v) := fun x v e => by
    rw [lookup_backV] at e
    cases e1 : V₁.lookup x with
    | none => rw [e1] at e; cases e
    | some u =>
      rw [e1] at e
      simp only [Option.map_some] at e
      split at e
      · rename_i hf
        have hf := beq_iff_eq.mp hf
        obtain ⟨v', e2⟩ := hcap x u e1 hf
        rw [e2] at e
        exact .inl ⟨hf, e2.trans e, u, rfl⟩
      · rename_i hf
        exact .inr ⟨fun hf' => hf (beq_iff_eq.mpr hf'), e⟩
  refine { base := fun a o e => c.z a o (x₂.base a o e), fz := c.st.fz, ns := let ⟨m, hm⟩ := x₂.ns; ⟨m, kns m hm⟩, zl := ?_, cell := fun y d e => let ⟨u, hu⟩ := x₂.cell y d e; ⟨u, kc y d u e hu⟩, zc := ?_, cinj := x₂.cinj, val := ?_, own := ?_, inj := ?_ }
  · obtain ⟨m, o, es', ep, e, hd, r⟩ := x₂.ns
    exact zk _ x₂.zl (nw _ (fun o' e' xs m' hd' => by rw [e] at e'; cases e'; rw [hd] at hd'; cases hd') ⟨o, e⟩) ⟨o, e⟩
  · intro y d ed
    obtain ⟨u, o, e, hd⟩ := x₂.cell y d ed
    exact zk _ (x₂.zc y d ed) (nw _ (fun o' e' xs m' hd' => by rw [e] at e'; cases e'; rw [hd] at hd'; cases hd') ⟨o, e⟩) ⟨o, e⟩
  · intro x d e
    rcases lookB x _ e with ⟨hf, e, _⟩ | ⟨hf, e⟩
    · obtain ⟨v, l, r⟩ := c.st.val x d e
      exact ⟨v, back x v hf l, r⟩
    · obtain ⟨v, l, r⟩ := x₂.val x d e
      exact ⟨v, kl x v l, r.mono c.z⟩
  · intro x ds e
    rcases lookB x _ e with ⟨hf, e, _⟩ | ⟨hf, e⟩
    · obtain ⟨l, w⟩ := c.st.own x ds e
      exact ⟨back x _ hf l, w⟩
    · obtain ⟨l, hz, vs, m, ho, r⟩ := x₂.own x ds e
      have ne : ¬ WE (capV scope V₁) al (al x) := fun ⟨y, es, e', ea⟩ => by
        rw [lookup_capV] at e'
        split at e'
        · rename_i hfy
          rw [x₂.inj x y ds es e e' ea] at hf
          exact hf (beq_iff_eq.mp hfy)
        · cases e'
      have nwr : al x ∉ wr := fun hw => (hwr _ hw).1 ⟨x, ds, e, rfl⟩
      refine ⟨kl x _ l, ?_, vs, m, c.obj _ _ ho ne nwr, r.mono c.z⟩
      cases e' : Z (al x) with
      | none => rfl
      | some o' =>
        rcases c.zn _ o' e' with e' | e' | e'
        · rw [hz] at e'; cases e'
        · exact (ne e').elim
        · rw [ho] at e'; cases e'
  · intro x y ds es e e' ea
    obtain ⟨es1, e1⟩ := backSub c.so x ds e
    obtain ⟨es2, e2⟩ := backSub c.so y es e'
    exact x₂.inj x y es1 es2 e1 e2 ea
end
end Mine
end

section
open PySem PySem.W PyProof.Rows PySem.Calls
namespace Mine
section
variable {W : Str → Prop} {G : GC} {n : Nat} {sc scope : Scope} {en ce : Env} {V V' V'' V₀ V₁ Vc : VM} {Z Z' Z'' Z₀ Z₁ : Zm} {al al' al'' al₀ : Str → Addr} {h h' h'' h₀ h₂ h₃ : Heap} {s s' s'' s₀ s₁ : Shared} {A : Around} {E : Value → Shared → Prop} {fp wr : List Addr} {Da : Addr} {acc : List D}

def TestQ (G : GC) (n : Nat) (sc : Scope) : List Expr → VM → (Bool → VM → Prop) → Prop
  | [], V, Q => Q true V
  | [c], V, Q => CoQ G n sc c V Q
  | _, _, _ => False
theorem TestQ.use {ifs : List Expr} {Q : Bool → VM → Prop} (hq : TestQ G n sc ifs V Q) (ek : EnvOk en sc) (rm : Rm A n) (x : St G en V Z al s.heap) {P : Bool → Shared → Prop}
    (k : ∀ v s₁ Z₁ V₁, Go en V Z al s V₁ Z₁ s₁ → St G en V₁ Z₁ al s₁.heap → Q v V₁ → P v s₁) :
    wpAny (model G.prog G.w) A (forIn ifs true fun c r => if r = true then do let ok ← isTrue c en (eval c en); pure (ForInStep.yield ok) else pure (ForInStep.yield r)) P E s := by
  match ifs, hq with
  | [], hq => exact wpAny_tests_nil (k true s Z V (.refl ..) x hq)
  | [c], hq => exact wpAny_tests_one (CoQ.use hq ek rm x k)

/-- what the items are made into -/
def CompJ (G : GC) (n : Nat) (rs : Scope) (target elt : Expr) (ifs : List Expr) (Vc : VM) (items : List D) (Fin : List D → VM → Prop) : Prop :=
  ∃ J : Nat → List D → VM → Prop, J 0 [] Vc ∧
    (∀ i acc Vi d, items[i]? = some d → J i acc Vi → ∃ V', bindT target d Vi = some V' ∧
      TestQ G n rs ifs V' (fun b V'' => if b = true then EvD G n rs elt V'' (fun y V3 => J (i + 1) (acc ++ [y]) V3) else J (i + 1) acc V'')) ∧
    (∀ acc Vn, J items.length acc Vn → Fin acc Vn)

theorem setVs_so : ∀ (xs : List Str) (ds : List D) (V : VM), SubOwn V (setVs V (xs.zip (ds.map R.d)))
  | [], _, V => .refl V
  | _ :: _, [], V => .refl V
  | x :: xs, d :: ds, V => subOwn_setD.trans (setVs_so xs ds _)
theorem bindT_so {target : Expr} {d : D} (hb : bindT target d V = some V') : SubOwn V V' := by
  cases target with
  | Name x p => cases hb; exact subOwn_setD
  | Tuple es k p =>
    cases d with
    | tup ds =>
      unfold bindT at hb
      cases hx : namesOf es with
      | none => simp only [hx] at hb; cases hb
      | some xs =>
        simp only [hx] at hb
        split at hb
        · cases hb; exact setVs_so xs ds V
        · cases hb
    | _ => cases hb
  | _ => cases hb

theorem comp_core {elt target iter : Expr} {ifs : List Expr} {pos : Pos} {s₂ : Shared} {I : Addr} {items : List D} {S : Nat → Heap → Prop} {Fin : List D → VM → Prop} {RR : Value → Addr → Result → Shared → Prop} {cl : List (Str × Addr)}
    (ek : EnvOk en sc) (rm : Rm A n) (cok : compOk scope sc = true) (ht : targetOk (relabelS scope sc) target) (htf : ∀ x ∈ targetNames target, scope.names.lookup x ≠ some .free)
    (h1 : ∀ x c, cl.lookup x = some c → en.cells.lookup x = some c) (h2 : ∀ x, scope.names.lookup x = some .free → ∃ c, cl.lookup x = some c)
    (x₂ : St G en V₁ Z₁ al s₂.heap) (ia : ItAt G en target V₁ Z₁ al h₀ s₂.heap I fp wr items S) (cj : CompJ G n (relabelS scope sc) target elt ifs (capV scope V₁) items Fin)
    (fin : ∀ ce h₃ s' Da acc Vn Zn, ce.scope = relabelS scope sc → CCells scope en s₂.heap h₃ ce.cells → ce.locals ≠ Da → s₂.heap.get? Da = none → s₂.heap.get? ce.locals = none → CS G ce (capV scope V₁) Z₁ al s₂.heap fp wr Da Vn Zn s'.heap acc → Kp s₂ s' → acc.length ≤ items.length → Fin acc Vn →
      RR (.ref Da) ce.locals (.ok .next) s') :
    wpAny (model G.prog G.w) A (newList []) (fun acc s₃ => wpAny (model G.prog G.w) A (newFunctionEnv scope en.globals cl [] en.qual none .none (some en)) (fun cenv s₄ =>
      codeAny (model G.prog G.w) A (.compStart (.ListComp elt [⟨target, iter, ifs, 0⟩] scope pos) 0 (.ref I) acc { cenv with scope := relabel scope en }) (RR acc cenv.locals) s₄) E s₃) E s₂ := by
  have k1 : ∀ a o, s₂.heap.get? a = some o → (s₂.heap.push { cls := .type "list", dict := none, data := .seq ([] : List Value).toArray }).get? a = some o := fun _ _ e => Heap.get?_push_of_some _ e
  have hDa : (s₂.heap.push { cls := .type "list", dict := none, data := .seq ([] : List Value).toArray }).get? s₂.heap.objs.size = some (Lo [] 0) := Heap.get?_push_size _ rfl
  refine wpAny_newObj_type ?_
  refine env_comp (s := { s₂ with heap := s₂.heap.push { cls := .type "list", dict := none, data := .seq ([] : List Value).toArray } }) ek cok (x₂.keeps k1) h1 h2 fun cenv h₃ e1 e2 e3 e4 hns k2 CC hcl => ?_
  have hszz : cenv.locals = s₂.heap.objs.size + 1 := by rw [e4]; exact Heap.size_push ..
  have k3 : ∀ a o, s₂.heap.get? a = some o → h₃.get? a = some o := fun a o e => k2 a o (k1 a o e)
  have nope : ∀ a, (s₂.heap.push { cls := .type "list", dict := none, data := .seq ([] : List Value).toArray }).get? a = none → s₂.heap.get? a = none := fun a e => by
    cases e' : s₂.heap.get? a with
    | none => rfl
    | some o => rw [k1 a o e'] at e; cases e
  have CC₂ : CCells scope en s₂.heap h₃ cenv.cells := ⟨fun x c hx e => ⟨nope c (CC.new x c hx e).1, (CC.new x c hx e).2⟩, CC.old, CC.hasN, CC.hasF, CC.apart⟩
  have hC : s₂.heap.get? cenv.locals = none := size_fresh (by rw [hszz]; exact Nat.le_succ _)
  have hD : s₂.heap.get? s₂.heap.objs.size = none := get_size _
  have hCD : cenv.locals ≠ s₂.heap.objs.size := by rw [hszz]; exact Nat.succ_ne_self _
  -- the comprehension's env
  have er : relabel scope en = relabelS scope sc := relabel_eq ek
  generalize hce : ({ cenv with scope := relabel scope en } : Env) = ce
  have ces : ce.scope = relabelS scope sc := by rw [← hce]; exact er
  have cel : ce.locals = cenv.locals := by rw [← hce]
  have cec : ce.cells = cenv.cells := by rw [← hce]
  have ceg : ce.globals = en.globals := by rw [← hce]; exact e2
  have ceb : ce.builtins = en.builtins := by rw [← hce]; exact e3
  rw [← cec] at CC₂ hcl
  rw [← cel] at hC hCD hns hcl
  have ek' : EnvOk ce (relabelS scope sc) := by
    refine ⟨ces, ceg.trans ek.globals, ceb.trans ek.builtins, (show scope.kind = _ from compOk_kind cok), fun x hx => ?_⟩
    rw [lookup_relabel] at hx
    cases e : scope.names.lookup x with
    | none => rw [e] at hx; rcases hx with hx | hx <;> cases hx
    | some k =>
      cases k with
      | cell => exact CC₂.hasN x e
      | free => exact CC₂.hasF x e
      | _ => rw [e] at hx; rcases hx with hx | hx <;> simp at hx
  have zfresh : ∀ a, s₂.heap.get? a = none → Z₁ a = none := fun a ha => by
    cases e : Z₁ a with
    | none => rfl
    | some o => rw [x₂.fz a o e] at ha; cases ha
  have cellOld : ∀ x c, ce.cells.lookup x = some c → (∃ u, s₂.heap.IsCell c u) ∨ s₂.heap.get? c = none := fun x c e => by
    by_cases hx : scope.names.lookup x = some .cell
    · exact .inr (CC₂.new x c hx e).1
    · exact .inl (x₂.cell x c (CC₂.old x c hx e))
  have st₀ : St G ce (capV scope V₁) Z₁ al h₃ := by
    have lcap : ∀ x v, (capV scope V₁).lookup x = some v → scope.names.lookup x = some .free ∧ V₁.lookup x = some v := fun x v e => by
      rw [lookup_capV] at e
      split at e
      · rename_i hf; exact ⟨beq_iff_eq.mp hf, e⟩
      · cases e
    have lds : ∀ x v, scope.names.lookup x = some .free → Loads en s₂.heap x v → Loads ce h₃ x v := fun x v hf l => by
      have hk := compOk_free cok (x, .free) (mem_of_lookup hf) rfl
      rcases l with ⟨e, _⟩ | ⟨_, c, hc, hv⟩
      · rw [ek.scope] at e; rcases hk with hk | hk <;> (rw [show List.lookup x sc.names = _ from hk] at e; cases e)
      · obtain ⟨c', hc'⟩ := CC₂.hasF x hf
        have := CC₂.old x c' (by rw [hf]; simp) hc'
        rw [hc] at this; cases this
        refine .inr ⟨?_, c, hc', hv.keeps k3⟩
        rw [ces, lookup_relabel, hf]
        simp only [Option.map_some]
        split
        · exact .inl rfl
        · exact .inr rfl
    refine { base := x₂.base, fz := fun a o e => k3 a o (x₂.fz a o e), ns := ⟨_, hns⟩, zl := zfresh _ hC, cell := fun x c e => ?_, zc := fun x c e => ?_, cinj := fun x y c ex ey => ?_, val := fun x d e => ?_, own := fun x ds e => ?_, inj := fun x y ds es e e' ea => ?_ }
    · by_cases hx : scope.names.lookup x = some .cell
      · exact ⟨_, (CC₂.new x c hx e).2⟩
      · obtain ⟨u, hu⟩ := x₂.cell x c (CC₂.old x c hx e); exact ⟨u, hu.keeps k3⟩
    · by_cases hx : scope.names.lookup x = some .cell
      · exact zfresh _ (CC₂.new x c hx e).1
      · exact x₂.zc x c (CC₂.old x c hx e)
    · by_cases hx : scope.names.lookup x = some .cell <;> by_cases hy : scope.names.lookup y = some .cell
      · exact CC₂.apart x y c hx hy ex ey
      · obtain ⟨u, o, ho, _⟩ := x₂.cell y c (CC₂.old y c hy ey)
        rw [(CC₂.new x c hx ex).1] at ho; cases ho
      · obtain ⟨u, o, ho, _⟩ := x₂.cell x c (CC₂.old x c hx ex)
        rw [(CC₂.new y c hy ey).1] at ho; cases ho
      · exact x₂.cinj x y c (CC₂.old x c hx ex) (CC₂.old y c hy ey)
    · obtain ⟨hf, e⟩ := lcap x _ e
      obtain ⟨v, l, r⟩ := x₂.val x d e
      exact ⟨v, lds x v hf l, r⟩
    · obtain ⟨hf, e⟩ := lcap x _ e
      obtain ⟨l, z, vs, m, ho, r⟩ := x₂.own x ds e
      exact ⟨lds x _ hf l, z, vs, m, k3 _ _ ho, r⟩
    · exact x₂.inj x y ds es (lcap x _ e).2 (lcap y _ e').2 ea
  have liveOf : ∀ b, (∃ o, s₂.heap.get? b = some o) → (¬ WE V₁ al b ∧ ∀ x, en.cells.lookup x ≠ some b) → Live ce (capV scope V₁) al b := fun b ⟨o, ho⟩ ⟨hw, hc⟩ => by
    refine ⟨fun w => hw (capSub.we w), fun e => (by rw [e, hC] at ho; cases ho), fun x e => ?_⟩
    by_cases hx : scope.names.lookup x = some .cell
    · rw [(CC₂.new x b hx e).1] at ho; cases ho
    · exact hc x (CC₂.old x b hx e)
  have exfp : ∀ b ∈ fp, ∃ o, s₂.heap.get? b = some o := ia.itr.ex 0 _ ia.s0
  obtain ⟨P, Md, Wk, hP⟩ := ia.itr.t A rm.1
  have sub := Wk.sub
  have hDw : s₂.heap.objs.size ∉ wr := fun hw => by obtain ⟨o, ho⟩ := exfp _ (sub _ hw); rw [hD] at ho; cases ho
  have cs₀ : CS G ce (capV scope V₁) Z₁ al s₂.heap fp wr s₂.heap.objs.size (capV scope V₁) Z₁ h₃ [] := by
    refine ⟨.refl _, fun a o e => .inl e, fun a o e _ _ => k3 a o e, fun a o e _ => ⟨o, k3 a o e⟩, .refl _, st₀, ⟨zfresh _ hD, [], 0, k2 _ _ hDa, rfl⟩, fun b hb => ?_, fun b hb => (ia.new b hb).2, ⟨fun ⟨x, ds, e, ea⟩ => ?_, fun e => hCD e.symm, fun x e => ?_⟩⟩
    · exact liveOf b (exfp b hb) ⟨(ia.live b hb).1, (ia.live b hb).2.2⟩
    · obtain ⟨es, e'⟩ := capSub x ds e
      obtain ⟨_, _, vs, m, ho, _⟩ := x₂.own x es e'
      rw [← ea, hD] at ho; cases ho
    · by_cases hx : scope.names.lookup x = some .cell
      · obtain ⟨o, ho, hd⟩ := (CC₂.new x _ hx e).2
        rw [k2 _ _ hDa] at ho; cases ho; cases hd
      · obtain ⟨u, o, ho, hd⟩ := x₂.cell x _ (CC₂.old x _ hx e)
        rw [hD] at ho; cases ho
  have hS₃ : S 0 h₃ := Wk.frame _ _ _ ia.s0 fun b _ o e => k3 b o e
  obtain ⟨J, hJ0, step, hFin⟩ := cj
  have hcw : ∀ x c, (fun x => x ∈ targetNames target) x → ce.kindOf x = some .cell → ce.cells.lookup x = some c → s₂.heap.get? c = none := fun x c hx hk hc => by
    have hf := htf x hx
    have hk' : (relabelS scope sc).names.lookup x = some .cell := by rw [← ces]; exact hk
    rw [lookup_relabel] at hk'
    cases e : scope.names.lookup x with
    | none => rw [e] at hk'; cases hk'
    | some k =>
      cases k with
      | cell => exact (CC₂.new x c e hc).1
      | free => exact (hf e).elim
      | _ => rw [e] at hk'; simp at hk'
  have loop : codeAny (model G.prog G.w) A (.compLoop (.ListComp elt [⟨target, iter, ifs, 0⟩] scope pos) 0 (.ref I) (.ref s₂.heap.objs.size) ce) (RR (.ref s₂.heap.objs.size) cenv.locals) { s₂ with heap := h₃ } := by
    rw [← cel]
    refine codeAny_loop rfl (fun k s' => ∃ i Zi Vi acc, CS G ce (capV scope V₁) Z₁ al s₂.heap fp wr s₂.heap.objs.size Vi Zi s'.heap acc ∧ S i s'.heap ∧ J i acc Vi ∧ acc.length ≤ i ∧ i ≤ items.length ∧ k = items.length + 1 - i ∧ Kp s₂ s') (fun k s' hk => wpAny_noted ?_) (items.length + 1)
      ⟨0, Z₁, _, [], cs₀, hS₃, hJ0, Nat.le_refl _, Nat.zero_le _, rfl, rfl, rfl⟩
    obtain ⟨i, Zi, Vi, acc, c, hS, hJ, hla, hi, rfl, kp⟩ := hk
    rw [compTurn_list]
    refine wpAny_bind (wpAny_standAt (wpAny_bind ?_))
    by_cases hlt : i < items.length
    · refine Wk.item i _ _ _ hlt hS fun v h₄ tk₄ hMd k₄ => ?_
      refine wpAny_bind (Wk.go i v _ _ _ hMd fun h₅ hPv hS₅ k₅ => ?_)
      have c₅ := c.but (fun b o hb e => k₅ b o hb (k₄ b o hb e)) sub hDw
      obtain ⟨d, ed, iv⟩ := hP i v h₅ hPv
      obtain ⟨V₆, eb, hbody⟩ := step i acc Vi d ed hJ
      have ex₅ := ia.itr.ex _ _ hS₅
      refine wpAny_bind (bind_sound (W := fun x => x ∈ targetNames target) (s := { s' with heap := h₅, toks := tk₄ }) ek' rm ht eb c₅.st (iv.mono c₅.z) (fun x hx => hx) fun h₆ tk₆ g₆ x₆ => ?_)
      have c₆ := c₅.goS (s := { s' with heap := h₅, toks := tk₄ }) (s' := { s' with heap := h₆, toks := tk₆ }) g₆ (bindT_so eb) x₆ ex₅ sub hC hcw
      have hS₆ : S (i + 1) h₆ := Wk.frame _ _ _ hS₅ fun b hb o e => g₆.obj b o e (c₅.live b hb).1 (c₅.live b hb).2.1 fun y _ _ => (c₅.live b hb).2.2 y
      have go : ∀ {V V' : VM} {Z Z' : Zm} {acc' : List D} {t t' : Shared}, CS G ce (capV scope V₁) Z₁ al s₂.heap fp wr s₂.heap.objs.size V Z t.heap acc' → S (i + 1) t.heap → Go ce V Z al t V' Z' t' → St G ce V' Z' al t'.heap →
          CS G ce (capV scope V₁) Z₁ al s₂.heap fp wr s₂.heap.objs.size V' Z' t'.heap acc' ∧ S (i + 1) t'.heap := fun {V V' Z Z' acc' t t'} c hS g x =>
        ⟨c.goS (W := fun _ => False) (g := g.toS) g.so x (ia.itr.ex _ _ hS) sub hC fun _ _ h => h.elim,
          Wk.frame _ _ _ hS fun b hb o e => g.ke.obj b o e (c.live b hb).1 (c.live b hb).2.1⟩
      refine wpAny_bind (TestQ.use (s := { s' with heap := h₆, toks := tk₆ }) hbody ek' rm x₆ fun b s₇ Z₇ V₇ g₇ x₇ q₇ => ?_)
      obtain ⟨c₇, hS₇⟩ := go (t := { s' with heap := h₆, toks := tk₆ }) c₆ hS₆ g₇ x₇
      have kp₇ : Kp s₂ s₇ := kp.trans g₇.kp
      cases b with
      | false =>
        exact wpAny_pure ⟨rfl, _, by lia, i + 1, Z₇, V₇, acc, c₇, hS₇, q₇, Nat.le_succ_of_le hla, hlt, rfl, kp₇⟩
      | true =>
        refine wpAny_bind (wpAny_bind (EvD.use q₇ ek' rm x₇ fun v s₈ Z₈ V₈ y g₈ x₈ ry q₈ => ?_))
        obtain ⟨c₈, hS₈⟩ := go c₇ hS₇ g₈ x₈
        obtain ⟨z, vs, m, ho, rs⟩ := c₈.acc
        have hl := rs.len
        have hL := ia.len
        refine wpAny_bind (append_at ho (fun h₉ hs₉ ho₉ => ?_) (by rw [sizeLine_eq]; simp only [List.size_toArray]; lia))
        have ho₉' : h₉.get? s₂.heap.objs.size = some (Lo (vs ++ [v]) (m + 1)) := by rw [ho₉]; simp
        refine wpAny_pure (wpAny_pure ⟨rfl, _, by lia, i + 1, Z₈, V₈, acc ++ [y], c₈.app hs₉ hD vs _ ho₉' rs ry, ?_, q₈, by rw [List.length_append]; exact Nat.succ_le_succ hla, hlt, rfl, kp₇.trans g₈.kp⟩)
        refine Wk.frame _ _ _ hS₈ fun b hb o e => (hs₉.2 b fun eb => ?_).trans e
        obtain ⟨o', ho'⟩ := exfp b hb
        rw [eb, hD] at ho'; cases ho'
    · have hin : i = items.length := by lia
      subst hin
      refine Wk.done _ _ _ hS fun h₄ tk₄ k₄ => ?_
      exact wpAny_pure (fin ce h₃ _ _ acc Vi Zi ces CC₂ hCD hD hC (c.but k₄ sub hDw) kp hla (hFin acc Vi hJ))
  exact codeAny_compStart_list loop (ia.itr.self _ _ _ _ hS₃ loop)
end
end Mine
end

section
open PySem PySem.W PyProof.Rows PySem.Calls
namespace Mine
section
variable {W : Str → Prop} {G : GC} {n : Nat} {sc scope : Scope} {en ce : Env} {V V' V'' V₀ V₁ Vc Vn : VM} {Z Z' Z'' Z₀ Z₁ Zn : Zm} {al al' al'' al₀ : Str → Addr} {h h' h'' h₀ h₂ h₃ : Heap} {s s' s'' s₀ s₁ s₂ : Shared} {A : Around} {E : Value → Shared → Prop} {fp wr : List Addr} {Da : Addr} {acc : List D}

def CompQ (G : GC) (n : Nat) (sc scope : Scope) (target elt iter : Expr) (ifs : List Expr) (V : VM) (Q : List D → VM → Prop) : Prop :=
  ItQ G n sc target iter V (fun items V₁ => CompJ G n (relabelS scope sc) target elt ifs (capV scope V₁) items (fun acc Vn =>
    (∀ x v, V₁.lookup x = some v → scope.names.lookup x = some .free → ∃ v', Vn.lookup x = some v') ∧ Q acc (backV scope V₁ Vn)))

structure CEnd (G : GC) (en ce : Env) (V : VM) (Z : Zm) (al : Str → Addr) (s : Shared) (V' : VM) (Zn : Zm) (Da : Addr) (acc : List D) (s' : Shared) : Prop where
  go : Go en V Z al s V' Zn s'
  st : St G en V' Zn al s'.heap
  own : Own Zn s'.heap Da acc
  dn : s.heap.get? Da = none
  dv : ∀ y es, V'.lookup y = some (.own es) → al y ≠ Da
  cn : s.heap.get? ce.locals = none
  cns : ∃ m, s'.heap.Ns ce.locals m
  cz : Zn ce.locals = none
  cl : Live en V' al ce.locals
  cd : ce.locals ≠ Da

theorem comp_end {target : Expr} {I : Addr} {items : List D} {S : Nat → Heap → Prop} (x₀ : St G en V Z al s.heap) (g₂ : Go en V Z al s V₁ Z₁ s₂) (x₂ : St G en V₁ Z₁ al s₂.heap) (ek : EnvOk en sc) (rm : Rm A n) (cok : compOk scope sc = true) (ia : ItAt G en target V₁ Z₁ al s.heap s₂.heap I fp wr items S)
    (es : ce.scope = relabelS scope sc) (CC : CCells scope en s₂.heap h₃ ce.cells) (cd : ce.locals ≠ Da) (hD : s₂.heap.get? Da = none) (hC : s₂.heap.get? ce.locals = none)
    (c : CS G ce (capV scope V₁) Z₁ al s₂.heap fp wr Da Vn Zn s'.heap acc) (hcap : ∀ x v, V₁.lookup x = some v → scope.names.lookup x = some .free → ∃ v', Vn.lookup x = some v') (kp : Kp s₂ s') :
    CEnd G en ce V Z al s (backV scope V₁ Vn) Zn Da acc s' := by
  obtain ⟨P, Md, Wk, hP⟩ := ia.itr.t A rm.1
  have hwr : ∀ b ∈ wr, Live en V₁ al b := fun b hb => ia.live b (Wk.sub b hb)
  have wn : ∀ a o, s.heap.get? a = some o → a ∉ wr := fun a o e hw => by rw [(ia.new a hw).1] at e; cases e
  have st := c.outer x₂ ek cok es CC hcap hwr fun b hb => (ia.new b hb).2
  have nownS : ∀ (V' : VM) (Z' : Zm) (h : Heap) a, St G en V' Z' al h → (∃ o, h.get? a = some o ∧ ∀ xs m, o.data ≠ .seq xs m) → ¬ WE V' al a := fun V' Z' h a x ⟨o, ho, hd⟩ ⟨y, ds, e, ea⟩ => by
    obtain ⟨_, _, vs, m, ho', _⟩ := x.own y ds e
    rw [← ea, ho] at ho'; cases ho'; exact hd _ _ rfl
  obtain ⟨mc, hmc⟩ := c.st.ns
  have so := backSub (V' := Vn) c.so
  refine ⟨⟨g₂.z.trans c.z, fun a o e => ?_, ⟨fun a o e w l => ?_, fun m hm => ?_, fun a o e => ?_⟩, g₂.so.trans so, g₂.kp.trans kp⟩, st, c.acc, g₂.ke.none hD, fun y es' e ea => ?_, g₂.ke.none hC, ⟨mc, hmc⟩, c.st.zl, ⟨?_, ?_, ?_⟩, cd⟩
  · rcases c.zn a o e with e | e | e
    · exact g₂.zn a o e
    · exact .inr (.inl (g₂.so.we (capSub.we e)))
    · exact .inr (.inr (g₂.ke.none e))
  · exact c.obj a o (g₂.ke.obj a o e w l) (fun w' => w (g₂.so.we (capSub.we w'))) (wn a o e)
  · obtain ⟨o, es, ep, e, hd, r⟩ := g₂.ke.ns m hm
    exact ⟨o, es, ep, c.obj _ _ e (fun w' => nownS _ _ _ _ x₂ ⟨o, e, fun xs m' hd' => by rw [hd] at hd'; cases hd'⟩ (capSub.we w')) (fun hw => (hwr _ hw).2.1 rfl), hd, r⟩
  · obtain ⟨o', e'⟩ := g₂.ke.dom a o e
    exact c.dom a o' e' (wn a o e)
  · obtain ⟨es2, e2⟩ := so y es' e
    obtain ⟨_, _, vs, m, ho, _⟩ := x₂.own y es2 e2
    rw [ea, hD] at ho; cases ho
  · refine nownS _ _ _ _ st ?_
    obtain ⟨o, es, ep, e, hd, r⟩ := hmc
    exact ⟨o, e, fun xs m' hd' => by rw [hd] at hd'; cases hd'⟩
  · intro e
    obtain ⟨m, o, _, _, e', _⟩ := x₂.ns
    rw [← e, hC] at e'; cases e'
  · intro y e
    obtain ⟨u, o, e', _⟩ := x₂.cell y _ e
    rw [hC] at e'; cases e'

theorem CEnd.drop {tk : Nat} (c : CEnd G en ce V Z al s V' Zn Da acc s') (hs : Heap.SameBut ce.locals s'.heap h') : Go en V Z al s V' Zn { s' with heap := h', toks := tk } ∧ St G en V' Zn al h' ∧ Own Zn h' Da acc := by
  have k : ∀ b o, b ∉ [ce.locals] → s'.heap.get? b = some o → h'.get? b = some o := fun b o hb e => (hs.2 b (fun eb => hb (by rw [eb]; exact List.mem_singleton.mpr rfl))).trans e
  have nc : ∀ a o, s.heap.get? a = some o → a ∉ [ce.locals] := fun a o e hb => by rw [List.mem_singleton.mp hb, c.cn] at e; cases e
  refine ⟨⟨c.go.z, c.go.zn, ⟨fun a o e w l => k a o (nc a o e) (c.go.ke.obj a o e w l), fun m hm => ?_, fun a o e => ?_⟩, c.go.so, c.go.kp⟩, c.st.but k fun b hb => by rw [List.mem_singleton.mp hb]; exact ⟨c.cz, c.cl⟩, ?_⟩
  · exact (c.go.ke.ns m hm).sameBut hs (fun e => c.cl.2.1 e.symm)
  · obtain ⟨o', e'⟩ := c.go.ke.dom a o e
    exact ⟨o', k a o' (nc a o e) e'⟩
  · obtain ⟨z, vs, m, ho, r⟩ := c.own
    exact ⟨z, vs, m, k _ _ (fun hb => c.cd (List.mem_singleton.mp hb).symm) ho, r⟩

def freeT (scope : Scope) (target : Expr) : Bool := (targetNames target).all fun x => scope.names.lookup x != some .free
theorem freeT_ok {target : Expr} (h : freeT scope target = true) : ∀ x ∈ targetNames target, scope.names.lookup x ≠ some .free := fun x hx => by
  unfold freeT at h
  have := List.all_eq_true.mp h x hx
  simpa using this

theorem ev_comp {elt target iter : Expr} {ifs : List Expr} {pos : Pos} {Q : R → VM → Prop} (cok : compOk scope sc = true) (ht : targetOk (relabelS scope sc) target) (htf : freeT scope target = true)
    (hq : CompQ G n sc scope target elt iter ifs V (fun acc V' => Q (.new acc) V')) (hs : ∀ en x, foldedSetIterable iter en x = pure x := by intros; rfl) :
    EvQ G n sc (.ListComp elt [⟨target, iter, ifs, 0⟩] scope pos) V Q :=
  fun en A E s Z al ek rm st => by
    obtain ⟨cl, hcl, h1, h2⟩ := closureFor_of ek cok
    rw [eval_ListComp]
    refine wpAny_comprehension_free (use := none) rfl (hs en) hcl (compOk_kind cok) (fun x hx e => by rw [compOk_names cok x hx, e]) (wpAny_mono (hq en A E s Z al ek rm st) (fun xv s₁ h₁ => wpAny_mono h₁ (fun it s₂ hr1 => ?_) fun _ _ e => e) fun _ _ e => e)
    obtain ⟨Z₁, V₁, I, fp, wr, items, S, g₂, x₂, eit, ia, cj⟩ := hr1
    subst eit
    refine comp_core (RR := fun acc C => compPost (model G.prog G.w) A E none (EP G en V Z al s Q) acc C) ek rm cok ht (freeT_ok htf) h1 h2 x₂ ia cj fun ce h₃ s' Da acc Vn Zn es CC hcd hD hC c kpc hla hr1 => ?_
    obtain ⟨hcap, q⟩ := hr1
    have ce := comp_end (s' := s') st g₂ x₂ ek rm cok ia es CC hcd hD hC c hcap kpc
    obtain ⟨m, hm⟩ := ce.cns
    refine ⟨m, hm, fun h' hs' => ?_⟩
    obtain ⟨g, x, w⟩ := ce.drop hs'
    exact ⟨Zn, _, .new acc, g, x, ⟨Da, rfl, ce.dn, w⟩, q⟩

def swapsB (scope sc : Scope) (t : Str) (pos vpos : Pos) : Bool :=
  sc.names.lookup t == some .local && pos.line == vpos.line && !(scope.names.any fun (n, k) => n == t && (k == .local || k == .cell))
theorem swaps_eq {elt : Expr} {gs : List Comprehension} {pos vpos : Pos} {t : Str} {l : Nat} (ek : EnvOk en sc) : swapsWith (.ListComp elt gs scope vpos) (some (.Name t pos)) l en = pure (swapsB scope sc t pos vpos) := by
  show (pure (en.blockKind == .function && en.kindOf t == some .local && pos.line == vpos.line && !(scope.names.any fun (n, k) => n == t && (k == .local || k == .cell))) : Sem Bool) = _
  unfold swapsB Env.kindOf
  have : en.blockKind = .function := by
    unfold Env.blockKind
    rw [ek.scope, ek.kind]
    rfl
  rw [this, ek.scope]
  rfl
theorem ex_assign_comp {y : Str} {py p : Pos} {elt target iter : Expr} {ifs : List Expr} {pos : Pos} {Q : Fl → VM → Prop} (hy : isStore sc y) (cok : compOk scope sc = true) (ht : targetOk (relabelS scope sc) target) (htf : freeT scope target = true)
    (hq : CompQ G n sc scope target elt iter ifs V (fun acc V' => Q .next (setV V' y (.own acc)))) (hs : ∀ en x, foldedSetIterable iter en x = pure x := by intros; rfl) :
    ExS G n sc (.Assign [.Name y py] (.ListComp elt [⟨target, iter, ifs, 0⟩] scope pos) p) V Q :=
  fun en A E s Z al ek rm st => by
    have hsw := swaps_eq (scope := scope) (elt := elt) (gs := [⟨target, iter, ifs, 0⟩]) (pos := py) (vpos := pos) (t := y) (l := p.line) ek
    cases hb : swapsB scope sc y py pos with
    | false =>
      rw [hb] at hsw
      exact wpAny_Assign_Name (wpAny_mono (ev_comp (Q := fun r V₁ => Q .next (setV V₁ y r.val)) cok ht htf hq hs en A E s Z al ek rm st) (fun v s₁ hq1 => by
       obtain ⟨Z₁, V₁, r, g₁, x₁, rr, q⟩ := hq1
       exact
        store_core ek hy (hy.w ek) g₁.toS x₁ (rr.pend st g₁) fun h' tk al' g' st' _ _ _ => ⟨Z₁, _, al', .next, g', st', trivial, q⟩) fun _ _ e => e) hsw
    | true =>
      rw [hb] at hsw
      obtain ⟨cl, hcl, h1, h2⟩ := closureFor_of ek cok
      rw [exec_Assign_Name_used _ _ _ _ hsw]
      refine wpAny_bind (wpAny_standAt (wpAny_bind ?_))
      show wpAny _ A (do let _ ← comprehension (.ListComp elt [⟨target, iter, ifs, 0⟩] scope pos) scope en _ (newList []) false (eval iter en) (some (assign (.Name y py) en))) _ _ s
      refine wpAny_bind (wpAny_mono (wpAny_comprehension_free (use := some (assign (.Name y py) en)) (Q := fun _ s' => SP G en V Z al s Q .next s') rfl (hs en) hcl (compOk_kind cok) (fun x hx e => by rw [compOk_names cok x hx, e])
        (wpAny_mono (hq en A E s Z al ek rm st) (fun xv s₁ h₁ => wpAny_mono h₁ (fun it s₂ hh => ?_) fun _ _ e => e) fun _ _ e => e)) (fun _ s' hq => wpAny_pure (wpAny_pure hq)) fun _ _ e => e)
      obtain ⟨Z₁, V₁, I, fp, wr, items, S, g₂, x₂, eit, ia, cj⟩ := hh
      subst eit
      refine comp_core (RR := fun acc C => compPost (model G.prog G.w) A E (some (assign (.Name y py) en)) (fun _ s' => SP G en V Z al s Q .next s') acc C) ek rm cok ht (freeT_ok htf) h1 h2 x₂ ia cj fun ce h₃ s' Da acc Vn Zn es CC hcd hD hC c kpc hla hr2 => ?_
      obtain ⟨hcap, q⟩ := hr2
      have ce' := comp_end (s' := s') st g₂ x₂ ek rm cok ia es CC hcd hD hC c hcap kpc
      show wpAny _ A (assign (.Name y py) en (.ref Da)) _ _ _
      refine wpAny_assign_Name (store_core (W := JW en) (r := .new acc) ek hy (hy.w ek) ce'.go.toS ce'.st ⟨Da, rfl, ce'.dn, ce'.own, ce'.dv⟩ fun h' tk al' g' st' kp ow _ => ?_)
      obtain ⟨m, hm⟩ := ce'.cns
      have hm' : h'.Ns ce.locals m := by
        obtain ⟨o, es', ep, e, r⟩ := hm
        exact ⟨o, es', ep, kp _ _ e (.inr ⟨ce'.cl.2.1, ce'.cl.2.2⟩), r⟩
      refine ⟨m, hm', fun h'' hs'' => ?_⟩
      have k : ∀ b o, b ∉ [ce.locals] → h'.get? b = some o → h''.get? b = some o := fun b o hb e => (hs''.2 b (fun eb => hb (by rw [eb]; exact List.mem_singleton.mpr rfl))).trans e
      refine ⟨Zn, _, al', .next, g'.but k (fun b hb => by rw [List.mem_singleton.mp hb]; exact ce'.cn), st'.but k fun b hb => ?_, trivial, q⟩
      rw [List.mem_singleton.mp hb]
      refine ⟨ce'.cz, fun hr3 => ?_, ce'.cl.2.1, ce'.cl.2.2⟩
      obtain ⟨z, ds, e, ea⟩ := hr3
      rcases ow z ds e with ⟨u, fs, e1, e2⟩ | e1
      · exact ce'.cl.1 ⟨u, fs, e1, ea.trans e2⟩
      · cases e1; exact ce'.cd ea
end
end Mine
end

section
open PySem PySem.W PyProof.Rows PySem.Calls
namespace Mine

theorem bindL_out {k : Str → Option NameKind} {x : Str} : ∀ {names : List Str} {vs : List Value} {m : Str → Option Value}, x ∉ names → bindL k (names.zip vs) m x = m x
  | [], _, _, _ => rfl
  | _ :: _, [], _, _ => rfl
  | y :: ns, v :: vs, m, h => by
    have h' : x ≠ y ∧ x ∉ ns := ⟨fun e => h (e ▸ List.mem_cons_self), fun e => h (List.mem_cons_of_mem _ e)⟩
    show bindL k (ns.zip vs) (if k y = some .local then fun z => if z = y then some v else m z else m) x = m x
    rw [bindL_out h'.2]
    split
    · simp [h'.1]
    · rfl
theorem bindL_in {k : Str → Option NameKind} {x : Str} {v : Value} (hk : k x = some .local) : ∀ {names : List Str} {vs : List Value} {m : Str → Option Value}, names.Nodup → (names.zip vs).lookup x = some v → bindL k (names.zip vs) m x = some v
  | [], _, _, _, e => by cases e
  | _ :: _, [], _, _, e => by cases e
  | y :: ns, w :: vs, m, nd, e => by
    have nd' := List.nodup_cons.mp nd
    show bindL k (ns.zip vs) (if k y = some .local then fun z => if z = y then some w else m z else m) x = some v
    rw [List.zip_cons_cons, List.lookup_cons] at e
    by_cases hx : x = y
    · subst hx
      simp at e
      rw [bindL_out nd'.1, if_pos hk, e]; simp
    · have hb : (x == y) = false := beq_eq_false_iff_ne.mpr hx
      rw [hb] at e
      exact bindL_in hk nd'.2 e
theorem bindC_out {k : Str → Option NameKind} {x : Str} : ∀ {names : List Str} {vs : List Value} {m : Str → Option Value}, x ∉ names → bindC k (names.zip vs) m x = m x
  | [], _, _, _ => rfl
  | _ :: _, [], _, _ => rfl
  | y :: ns, v :: vs, m, h => by
    have h' : x ≠ y ∧ x ∉ ns := ⟨fun e => h (e ▸ List.mem_cons_self), fun e => h (List.mem_cons_of_mem _ e)⟩
    show bindC k (ns.zip vs) (if k y = some .local then m else fun z => if z = y then some v else m z) x = m x
    rw [bindC_out h'.2]
    split
    · rfl
    · simp [h'.1]
theorem bindC_in {k : Str → Option NameKind} {x : Str} {v : Value} (hk : k x ≠ some .local) : ∀ {names : List Str} {vs : List Value} {m : Str → Option Value}, names.Nodup → (names.zip vs).lookup x = some v → bindC k (names.zip vs) m x = some v
  | [], _, _, _, e => by cases e
  | _ :: _, [], _, _, e => by cases e
  | y :: ns, w :: vs, m, nd, e => by
    have nd' := List.nodup_cons.mp nd
    show bindC k (ns.zip vs) (if k y = some .local then m else fun z => if z = y then some w else m z) x = some v
    rw [List.zip_cons_cons, List.lookup_cons] at e
    by_cases hx : x = y
    · subst hx
      simp at e
      rw [bindC_out nd'.1, if_neg hk, e]; simp
    · have hb : (x == y) = false := beq_eq_false_iff_ne.mpr hx
      rw [hb] at e
      exact bindC_in hk nd'.2 e

section
variable {W : Str → Prop} {G : GC} {n : Nat} {sc scope : Scope} {en ce : Env} {V V' V'' V₀ V₁ Vc Vn : VM} {Z Z' Z'' Z₀ Z₁ Zn : Zm} {al al' al'' al₀ : Str → Addr} {h h' h'' h₀ h₂ h₃ : Heap} {s s' s'' s₀ s₁ s₂ : Shared} {A : Around} {E : Value → Shared → Prop}

/-- what a call leaves outside -/
structure FOut (G : GC) (scope : Scope) (V₀ : VM) (Z : Zm) (al₀ : Str → Addr) (s : Shared) (V' : VM) (Z' : Zm) (s' : Shared) : Prop where
  z : Z.le Z'
  zn : ∀ a o, Z' a = some o → Z a = some o ∨ WE V₀ al₀ a ∨ s.heap.get? a = none
  obj : ∀ a o, s.heap.get? a = some o → ¬ WE V₀ al₀ a → s'.heap.get? a = some o
  dom : ∀ a o, s.heap.get? a = some o → ∃ o', s'.heap.get? a = some o'
  fz : ∀ a o, Z' a = some o → s'.heap.get? a = some o
  own : ∀ x ds, V'.lookup x = some (.own ds) → ¬ okJar scope x → Own Z' s'.heap (al₀ x) ds
  kp : Kp s s'

def ArgsOk (Z : Zm) (h : Heap) (al₀ : Str → Addr) (names : List Str) (vs : List Value) (V₀ : VM) : Prop :=
  (∀ x v, V₀.lookup x = some v → ∃ val, (names.zip vs).lookup x = some val ∧ match v with | .d d => Rep Z d val | .own ds => val = .ref (al₀ x) ∧ Own Z h (al₀ x) ds) ∧
  (∀ x y ds es, V₀.lookup x = some (.own ds) → V₀.lookup y = some (.own es) → al₀ x = al₀ y → x = y)

def cellOk (scope : Scope) (names : List Str) : Bool :=
  scope.kind == .function && !scope.isCoroutine && !scope.isGenerator && names.all (fun x => scope.names.lookup x == some .local || scope.names.lookup x == some .cell) &&
  scope.names.all (fun p => p.2 != .free) && scope.names.all (fun p => scope.names.lookup p.1 == some p.2) && decide names.Nodup
theorem fn_entry {fa : Addr} {o : Obj} {name : Str} {params : Arguments} {body : List Stmt} {pm code doc : Value} {names : List Str} {vs : List Value} {Q : R → VM → Prop}
    (hbase : ∀ a o, G.hT.get? a = some o → Z a = some o) (hfz : ∀ a o, Z a = some o → s.heap.get? a = some o)
    (ho : G.hT.get? fa = some o) (hd : o.data = .func (docDef name params body scope pm code doc)) (hcd : G.hT.CodeRec code name) (rm : Rm A (n + 1))
    (hbind : bindArgs (docDef name params body scope pm code doc) ⟨vs, []⟩ = pure (names.zip vs)) (cok : cellOk scope names = true)
    (hargs : ArgsOk Z s.heap al₀ names vs V₀)
    (hq : ExL G n scope body V₀ (fun fl V' => ∃ r, (fl = .ret r ∨ (fl = .next ∧ r = .d .non)) ∧ Q r V')) :
    wpAny (model G.prog G.w) A (call (.ref fa) vs) (fun v s' => ∃ Z' V' r, FOut G scope V₀ Z al₀ s V' Z' s' ∧ RRep Z' s.heap s'.heap v r ∧ Q r V') E s := by
  unfold cellOk at cok
  simp only [Bool.and_eq_true, beq_iff_eq, List.all_eq_true, decide_eq_true_eq, Bool.not_eq_true', Bool.or_eq_true, bne_iff_ne, ne_eq] at cok
  obtain ⟨⟨⟨⟨⟨⟨hk, hco⟩, hgen⟩, hnk⟩, hnf⟩, huq⟩, hnd⟩ := cok
  have kT : ∀ a o, G.hT.get? a = some o → s.heap.get? a = some o := fun a o e => hfz a o (hbase a o e)
  have hasC : ∀ x, scope.names.lookup x = some .cell → ∃ c, (cellsFrom (s.heap.objs.size + 1) scope.names []).lookup x = some c := fun x hx => cellsFrom_has _ _ _ x (.inr (mem_of_lookup hx))
  refine wpAny_call (codeAny_call_cells (body := body) (binds := names.zip vs) (by have := rm.2.1; lia) (kT _ _ ho) hd (G.nolim.keeps kT) (hcd.keeps kT) rfl hbind rfl (fun x hx => ?_) (fun s₁ ic => ?_) hco hgen hk)
  · have hm : x.1 ∈ names := by
      obtain ⟨y, v⟩ := x
      exact (List.of_mem_zip hx).1
    rcases hnk _ hm with h | h
    · exact .inl h
    · refine .inr ⟨h, ?_⟩
      obtain ⟨c, hc⟩ := hasC _ h
      show (List.lookup _ _).isSome = true
      rw [show (docDef name params body scope pm code doc).scope = scope from rfl, hc]; rfl
  generalize hen : callEnvC (docDef name params body scope pm code doc) s.heap.objs.size fa = en at ic ⊢
  have esc : en.scope = scope := by rw [← hen]; rfl
  have egl : en.globals = mainGlobals := by rw [← hen]; rfl
  have ebl : en.builtins = builtinsNs := by rw [← hen]; rfl
  have elo : en.locals = s.heap.objs.size := by rw [← hen]; rfl
  have ece : en.cells = cellsFrom (s.heap.objs.size + 1) scope.names [] := by rw [← hen]; rfl
  have ek : EnvOk en scope := ⟨esc, egl, ebl, hk, fun x hx => by
    rcases hx with hx | hx
    · rw [ece]; exact hasC x hx
    · exact absurd rfl (hnf (x, .free) (mem_of_lookup hx))⟩
  have hL : s.heap.get? en.locals = none := by rw [elo]; exact get_size _
  have hC : ∀ x c, en.cells.lookup x = some c → s.heap.get? c = none := fun x c e => size_fresh (by have := ic.above x c (mem_of_lookup e); rw [elo] at this; exact Nat.le_of_lt this)
  have zf : ∀ a, s.heap.get? a = none → Z a = none := fun a e => by
    cases e' : Z a with
    | none => rfl
    | some o => rw [hfz a o e'] at e; cases e
  have hload : ∀ x v, (names.zip vs).lookup x = some v → Loads en s₁.heap x v := fun x v e => by
    have hm : x ∈ names := by have := mem_of_lookup e; exact (List.of_mem_zip this).1
    rcases hnk x hm with h | h
    · exact .inl ⟨by rw [esc]; exact h, _, ic.toInCall.ns, bindL_in (by unfold Env.kindOf; rw [esc]; exact h) hnd e⟩
    · obtain ⟨c, hc⟩ := hasC x h
      rw [← ece] at hc
      refine .inr ⟨.inl (by rw [esc]; exact h), c, hc, ?_⟩
      have := ic.cell x c hc
      rwa [bindC_in (by unfold Env.kindOf; rw [esc, h]; simp) hnd e] at this
  have st : St G en V₀ Z al₀ s₁.heap := by
    refine { base := hbase, fz := fun a o e => ic.toInCall.keep a o (hfz a o e), ns := ⟨_, ic.toInCall.ns⟩, zl := zf _ hL, cell := fun x c e => ⟨_, ic.cell x c e⟩, zc := fun x c e => zf _ (hC x c e), cinj := fun x y c ex ey => name_of_addr ic.apart (mem_of_lookup ex) (mem_of_lookup ey), val := fun x d e => ?_, own := fun x ds e => ?_, inj := hargs.2 }
    · obtain ⟨val, hv, r⟩ := hargs.1 x _ e
      exact ⟨val, hload x val hv, r⟩
    · obtain ⟨val, hv, rfl, z, us, m, ho, r⟩ := hargs.1 x _ e
      exact ⟨hload x _ hv, z, us, m, ic.toInCall.keep _ _ ho, r⟩
  have rm' : Rm (A.deeper en) n := ⟨rm.1, by show A.depth + 1 + _ + _ < _; have := rm.2.1; lia, by show A.units + 3 + _ + _ < _; have := rm.2.2; lia⟩
  refine wpAny_mono (hq en (A.deeper en) _ s₁ Z al₀ ek rm' st) (fun fl s' hr1 => ?_) fun _ _ e => e
  obtain ⟨Z', V', al', fr, g, x, rr, r, e, q⟩ := hr1
  have nope : ∀ a, s₁.heap.get? a = none → s.heap.get? a = none := fun a e => by
    cases e' : s.heap.get? a with
    | none => rfl
    | some o => rw [ic.toInCall.keep a o e'] at e; cases e
  have out : FOut G scope V₀ Z al₀ s V' Z' s' := ⟨g.z, fun a o e => (g.zn a o e).imp id (·.imp id (nope a)), fun a o e w => g.obj a o (ic.toInCall.keep a o e) w (fun ea => by rw [ea, hL] at e; cases e) (fun y _ _ hc => by rw [hC y a hc] at e; cases e), fun a o e => g.dom a o (ic.toInCall.keep a o e), x.fz, fun y ds e hj => by
      have := (x.own y ds e).2
      rwa [g.alk y (by unfold JW; rw [esc]; exact hj)] at this, by
      obtain ⟨h', tk, e⟩ := ic.toInCall.same
      have k₁ : Kp s s₁ := by rw [e]; exact ⟨rfl, rfl⟩
      exact k₁.trans g.kp⟩
  rcases e with e | ⟨e, er⟩
  · subst e
    cases fl with
    | next => exact rr.elim
    | brk => exact rr.elim
    | cont => exact rr.elim
    | ret v =>
      refine ⟨Z', V', r, out, ?_, q⟩
      cases r with
      | d d => exact rr
      | new ds => obtain ⟨a, ea, hn, w⟩ := rr; exact ⟨a, ea, nope a hn, w⟩
  · subst e; subst er
    cases fl with
    | next => exact ⟨Z', V', .d .non, out, rfl, q⟩
    | brk => exact rr.elim
    | cont => exact rr.elim
    | ret v => exact rr.elim
end
end Mine
end

section
open PySem PySem.W PyProof.Rows PySem.Calls
namespace Mine
section
variable {W : Str → Prop} {G : GC} {n : Nat} {sc scope : Scope} {en ce : Env} {V V' V'' V₀ V₁ Vc Vn : VM} {Z Z' Z'' Z₀ Z₁ Zn : Zm} {al al' al'' al₀ : Str → Addr} {h h' h'' h₀ h₂ h₃ : Heap} {s s' s'' s₀ s₁ s₂ : Shared} {A : Around} {E : Value → Shared → Prop}

abbrev jarN : Str := "jar"
def argNames (d : DefRec) : List Str := d.params.args.map (·.arg)
def BindOk (d : DefRec) (k : Nat) : Prop := ∀ pm code doc (vs : List Value), vs.length = k → bindArgs (docDef d.name d.params d.body d.scope pm code doc) ⟨vs, []⟩ = pure ((argNames d).zip vs)
/-- a function of plain data -/
def FnS (G : GC) (n : Nat) (d : DefRec) (ds : List D) (Q : R → Prop) : Prop :=
  ∀ fa o pm code doc, G.hT.get? fa = some o → o.data = .func (docDef d.name d.params d.body d.scope pm code doc) → G.hT.CodeRec code d.name →
    ∀ V, CallP G n (.ref fa) ds V (fun r V' => V' = V ∧ Q r)
/-- a function that takes the jar ahead -/
def FnJ (G : GC) (n : Nat) (d : DefRec) (js : List D) (ds : List D) (Q : R → List D → Prop) : Prop :=
  ∀ fa o pm code doc, G.hT.get? fa = some o → o.data = .func (docDef d.name d.params d.body d.scope pm code doc) → G.hT.CodeRec code d.name →
    ∀ A E s Z vs a, Rm A n → (∀ a o, G.hT.get? a = some o → Z a = some o) → (∀ a o, Z a = some o → s.heap.get? a = some o) → Own Z s.heap a js → Reps Z ds vs →
      wpAny (model G.prog G.w) A (call (.ref fa) (.ref a :: vs)) (fun v s' => ∃ Z' r js', Kp s s' ∧ Z.le Z' ∧ (∀ b o, Z' b = some o → Z b = some o ∨ s.heap.get? b = none) ∧ (∀ b o, s.heap.get? b = some o → b ≠ a → s'.heap.get? b = some o) ∧
        (∀ b o, Z' b = some o → s'.heap.get? b = some o) ∧ Own Z' s'.heap a js' ∧ RRep Z' s.heap s'.heap v r ∧ Q r js') E s

def argsV (names : List Str) (ds : List D) : VM := names.zip (ds.map Val.d)
theorem argsV_look : ∀ {names : List Str} {ds : List D} {vs : List Value} {x : Str} {v : Val}, Reps Z ds vs → (argsV names ds).lookup x = some v → ∃ val d, (names.zip vs).lookup x = some val ∧ v = .d d ∧ Rep Z d val
  | [], _, _, _, _, _, e => by cases e
  | _ :: _, [], _, _, _, _, e => by cases e
  | y :: ns, d :: ds, _, x, v, ⟨w, r, ev, rd, rs⟩, e => by
    subst ev
    unfold argsV at e
    rw [List.map_cons, List.zip_cons_cons, List.lookup_cons] at e
    rw [List.zip_cons_cons, List.lookup_cons]
    cases hb : x == y with
    | true => rw [hb] at e; cases e; exact ⟨w, d, rfl, rfl, rd⟩
    | false => rw [hb] at e; exact argsV_look rs e

theorem fnS {d : DefRec} {ds : List D} {Q : R → Prop} (hb : BindOk d ds.length) (cok : cellOk d.scope (argNames d) = true)
    (hq : ExL G n d.scope d.body (argsV (argNames d) ds) (fun fl V' => ∃ r, (fl = .ret r ∨ (fl = .next ∧ r = .d .non)) ∧ Q r)) : FnS G (n + 1) d ds Q :=
  fun fa o pm code doc ho hd hcd V en A E s Z al vs rm x rs => by
    refine wpAny_mono (fn_entry (al₀ := fun _ => 0) (V₀ := argsV (argNames d) ds) (Q := fun r V' => Q r) x.base x.fz ho hd hcd rm (hb pm code doc vs rs.len) cok ⟨fun y v e => ?_, fun y z ds es e => ?_⟩ hq) (fun v s' ⟨Z', V', r, f, rr, q⟩ => ?_) fun _ _ e => e
    · obtain ⟨val, d, h1, h2, h3⟩ := argsV_look rs e
      subst h2; exact ⟨val, h1, h3⟩
    · obtain ⟨val, d, h1, h2, h3⟩ := argsV_look rs e; cases h2
    · have nw : ∀ a, ¬ WE (argsV (argNames d) ds) (fun _ => 0) a := fun a ⟨y, es, e, _⟩ => by
        obtain ⟨val, d, h1, h2, h3⟩ := argsV_look rs e; cases h2
      have k : ∀ a o, s.heap.get? a = some o → s'.heap.get? a = some o := fun a o e => f.obj a o e (nw a)
      have zn : ∀ a o, Z' a = some o → Z a = some o ∨ s.heap.get? a = none := fun a o e => (f.zn a o e).imp id (·.elim (fun w => (nw a w).elim) id)
      have zk : ∀ a, Z a = none → (∃ o, s.heap.get? a = some o) → Z' a = none := fun a hz ⟨o, ho⟩ => by
        cases e : Z' a with
        | none => rfl
        | some o' => rcases zn a o' e with e | e
                     · rw [hz] at e; cases e
                     · rw [ho] at e; cases e
      refine ⟨Z', V, r, ⟨f.z, fun a o e => (zn a o e).imp id .inr, .of_keeps k, .refl V, f.kp⟩, ?_, rr, rfl, q⟩
      refine (x.keeps k).grow f.z f.fz ?_ (fun y c e => ?_) (fun y es e => ?_)
      · obtain ⟨m, o, _, _, e, _⟩ := x.ns; exact zk _ x.zl ⟨o, e⟩
      · obtain ⟨u, o, e', _⟩ := x.cell y c e; exact zk _ (x.zc y c e) ⟨o, e'⟩
      · obtain ⟨_, z, vs', m, e', _⟩ := x.own y es e; exact zk _ z ⟨_, e'⟩

theorem fnJ {d : DefRec} {js ds : List D} {ns : List Str} {Q : R → List D → Prop} (hb : BindOk d (ds.length + 1)) (hn : argNames d = jarN :: ns) (hj : jarN ∉ ns) (hnj : ¬ okJar d.scope jarN) (cok : cellOk d.scope (argNames d) = true)
    (hq : ExL G n d.scope d.body ((jarN, .own js) :: argsV ns ds) (fun fl V' => ∃ r, (fl = .ret r ∨ (fl = .next ∧ r = .d .non)) ∧ ∃ js', V'.lookup jarN = some (.own js') ∧ Q r js')) : FnJ G (n + 1) d js ds Q :=
  fun fa o pm code doc ho hd hcd A E s Z vs a rm hbase hfz w rs => by
    have look : ∀ y v, List.lookup y ((jarN, Val.own js) :: argsV ns ds) = some v → (y = jarN ∧ v = .own js) ∨ (y ≠ jarN ∧ ∃ val d, (ns.zip vs).lookup y = some val ∧ v = .d d ∧ Rep Z d val) := fun y v e => by
      rw [List.lookup_cons] at e
      by_cases hy : y = jarN
      · subst hy; simp at e; exact .inl ⟨rfl, e.symm⟩
      · have hb : (y == jarN) = false := beq_eq_false_iff_ne.mpr hy
        rw [hb] at e
        obtain ⟨val, d, h1, h2, h3⟩ := argsV_look rs e
        exact .inr ⟨hy, val, d, h1, h2, h3⟩
    refine wpAny_mono (fn_entry (al₀ := fun _ => a) (V₀ := (jarN, .own js) :: argsV ns ds) (names := argNames d) (Q := fun r V' => ∃ js', V'.lookup jarN = some (.own js') ∧ Q r js') hbase hfz ho hd hcd rm (hb pm code doc (.ref a :: vs) (by rw [List.length_cons, rs.len])) cok ⟨fun y v e => ?_, fun y z ds' es e e' _ => ?_⟩ hq) (fun v s' ⟨Z', V', r, f, rr, js', ej, q⟩ => ?_) fun _ _ e => e
    · rw [hn, List.zip_cons_cons, List.lookup_cons]
      rcases look y v e with ⟨rfl, rfl⟩ | ⟨hy, val, d, h1, h2, h3⟩
      · exact ⟨.ref a, by simp, rfl, w⟩
      · have hb : (y == jarN) = false := beq_eq_false_iff_ne.mpr hy
        rw [hb]; subst h2; exact ⟨val, h1, h3⟩
    · rcases look y _ e with ⟨rfl, _⟩ | ⟨_, _, _, _, h2, _⟩
      · rcases look z _ e' with ⟨rfl, _⟩ | ⟨_, _, _, _, h2, _⟩
        · rfl
        · cases h2
      · cases h2
    · have wa : ∀ b, WE ((jarN, .own js) :: argsV ns ds) (fun _ => a) b → b = a := fun b ⟨_, _, _, e⟩ => e
      have own := f.own jarN js' ej hnj
      refine ⟨Z', r, js', f.kp, f.z, fun b o e => ?_, fun b o e hb => f.obj b o e fun hw => hb (wa b hw), f.fz, own, rr, q⟩
      rcases f.zn b o e with e' | e' | e'
      · exact .inl e'
      · rw [wa b e', own.1] at e; cases e
      · exact .inr e'

theorem rec_of (G : GC) {d : DefRec} (hd : d ∈ G.recs) : ∃ fa o pm code doc, G.mg d.name = some (.ref fa) ∧ G.hT.get? fa = some o ∧ o.data = .func (docDef d.name d.params d.body d.scope pm code doc) ∧ G.hT.CodeRec code d.name := by
  obtain ⟨a, o, pm, code, doc, h⟩ := G.fn d hd
  exact ⟨a, o, pm, code, doc, h⟩
theorem ev_call {d : DefRec} {x : Str} {px pos : Pos} {e : Expr} {es : List Expr} {Q : R → VM → Prop} (hd : d ∈ G.recs) (hx : d.name = x) (hg : isGlob sc x)
    (hq : EvL G n sc (e :: es) V (fun ds V₁ => FnS G n d ds (fun r => Q r V₁))) (hs : ∀ x ∈ e :: es, notStar x = true := by exact allStar (by rfl)) (hn : okName x = true := by decide) :
    EvQ G n sc (.Call (.Name x px) (e :: es) [] pos) V Q := by
  obtain ⟨fa, o, pm, code, doc, h1, h2, h3, h4⟩ := rec_of G hd
  subst hx
  refine ev_call_fn hg h1 h2 h3 ?_ hs hn
  have mono : ∀ (es : List Expr) (V : VM) (P P' : List D → VM → Prop), (∀ ds V', P ds V' → P' ds V') → EvL G n sc es V P → EvL G n sc es V P' := fun es => by
    induction es with
    | nil => exact fun V P P' h hp => h _ _ hp
    | cons e es ih => exact fun V P P' h hp => ⟨hp.1, fun en A E s Z al ek rm st => wpAny_mono (hp.2 en A E s Z al ek rm st) (fun v s' hq2 => by obtain ⟨Z', V', r, g, x, rr, q⟩ := hq2; exact ⟨Z', V', r, g, x, rr, ih V' _ _ (fun ds V'' hp => h _ _ hp) q⟩) fun _ _ e => e⟩
  refine mono _ V _ _ (fun ds V' hf en A E s Z al vs rm st rs => ?_) hq
  exact wpAny_mono (hf fa o pm code doc h2 h3 h4 V' en A E s Z al vs rm st rs) (fun v s' hq1 => by obtain ⟨Z', V'', r, g, x, rr, ev, q⟩ := hq1; exact ⟨Z', V'', r, g, x, rr, by rw [ev]; exact q⟩) fun _ _ e => e

theorem ev_call_jar {d : DefRec} {x : Str} {px pj pos : Pos} {es : List Expr} {js₀ : List D} {Q : R → VM → Prop} (hd : d ∈ G.recs) (hx : d.name = x) (hg : isGlob sc x) (hj₀ : V.lookup jarN = some (.own js₀))
    (hq : EvL G n sc es V (fun ds V₁ => ∃ js, V₁.lookup jarN = some (.own js) ∧ FnJ G n d js ds (fun r js' => Q r (setV V₁ jarN (.own js'))))) (hs : ∀ x ∈ es, notStar x = true := by exact allStar (by rfl)) (hn : okName x = true := by decide) :
    EvQ G n sc (.Call (.Name x px) (.Name jarN pj :: es) [] pos) V Q :=
  fun en A E s Z al ek rm st => by
    obtain ⟨fa, o, pm, code, doc, h1, h2, h3, h4⟩ := rec_of G hd
    subst hx
    obtain ⟨l₀, _⟩ := st.own jarN js₀ hj₀
    refine wpAny_Call_NameR (load_glob ek hg st h1 hn ?_)
    have e1 : backTo pos (starEach (.Name jarN pj :: es) en) = (false, eval (.Name jarN pj) en) :: backTo pos (starEach es en) := by rw [starEach_cons rfl]; rfl
    rw [e1]
    have main : wpAny (model G.prog G.w) A (spliced ((false, eval (.Name jarN pj) en) :: backTo pos (starEach es en))) (fun vs s₁ => (s₁.heap.get? fa = some o ∧ o.data = .func (docDef d.name d.params d.body d.scope pm code doc)) ∧ wpAny (model G.prog G.w) A (call (.ref fa) vs) (EP G en V Z al s Q) E s₁) E s := by
      refine spliced_cons (wpAny_Name (load_var ek l₀ ?_ (by decide)) (by decide))
      refine wpAny_mono (hq.sound ek rm st) (fun vs s₁ hr1 => ?_) fun _ _ e => e
      obtain ⟨Z₁, V₁, ds, g₁, x₁, rs, js, hj, f⟩ := hr1
      refine ⟨⟨x₁.fz _ _ (x₁.base _ _ h2), h3⟩, ?_⟩
      obtain ⟨l, w⟩ := x₁.own jarN js hj
      refine wpAny_mono (f fa o pm code doc h2 h3 h4 A E s₁ Z₁ vs (al jarN) rm x₁.base x₁.fz w rs) (fun v s' hr2 => ?_) fun _ _ e => e
      obtain ⟨Z', r, js', kpj, z, zn, obj, fz, ow, rr, q⟩ := hr2
      obtain ⟨wz, wvs, wm, who, wrs⟩ := id w
      have notSeq : ∀ b o', s₁.heap.get? b = some o' → (∀ xs m, o'.data ≠ .seq xs m) → b ≠ al jarN := fun b o' e hne eb => by
        rw [eb, who] at e; cases e; exact hne _ _ rfl
      have nsNe : en.locals ≠ al jarN := by
        obtain ⟨m, o', es, ep, ho', hd', _⟩ := x₁.ns
        exact notSeq _ o' ho' fun xs m e => by rw [hd'] at e; cases e
      have ceNe : ∀ z c, en.cells.lookup z = some c → c ≠ al jarN := fun z c e => by
        obtain ⟨u, o', ho', hd'⟩ := x₁.cell z c e
        exact notSeq _ o' ho' fun xs m e => by rw [hd'] at e; cases e
      have kns : ∀ m, s₁.heap.Ns en.locals m → s'.heap.Ns en.locals m := fun m ⟨o, es, ep, e, r⟩ => ⟨o, es, ep, obj _ _ e nsNe, r⟩
      have kc : ∀ z c u, en.cells.lookup z = some c → s₁.heap.IsCell c u → s'.heap.IsCell c u := fun z c u e ⟨o, ho, hd⟩ => ⟨o, obj _ _ ho (ceNe z c e), hd⟩
      have lds : ∀ z w, Loads en s₁.heap z w → Loads en s'.heap z w := fun z w l => by
        rcases l with ⟨e, m, hm, hw⟩ | ⟨e, c, hc, hv⟩
        · exact .inl ⟨e, m, kns m hm, hw⟩
        · exact .inr ⟨e, c, hc, kc z c _ hc hv⟩
      have zk : ∀ a, Z₁ a = none → (∃ o, s₁.heap.get? a = some o) → Z' a = none := fun a hz ⟨o, ho⟩ => by
        cases e : Z' a with
        | none => rfl
        | some o' => rcases zn a o' e with e | e
                     · rw [hz] at e; cases e
                     · rw [ho] at e; cases e
      have look : ∀ z u, (setV V₁ jarN (.own js')).lookup z = some u → (z = jarN ∧ u = .own js') ∨ (z ≠ jarN ∧ V₁.lookup z = some u) := fun z u e => by
        rw [lookup_setV] at e
        by_cases hz : z = jarN
        · rw [if_pos hz] at e; exact .inl ⟨hz, (Option.some.inj e).symm⟩
        · rw [if_neg hz] at e; exact .inr ⟨hz, e⟩
      have so : SubOwn V₁ (setV V₁ jarN (.own js')) := fun z es e => by
        rcases look z _ e with ⟨rfl, _⟩ | ⟨_, e⟩
        · exact ⟨js, hj⟩
        · exact ⟨es, e⟩
      have g₂ : Go en V₁ Z₁ al s₁ (setV V₁ jarN (.own js')) Z' s' := ⟨z, fun a o e => (zn a o e).imp id .inr, ⟨fun a o e w _ => obj a o e fun ea => w ⟨jarN, js, hj, ea⟩, kns, fun a o e => by
        by_cases ea : a = al jarN
        · obtain ⟨_, vs', m', ho', _⟩ := ow; exact ⟨_, ea ▸ ho'⟩
        · exact ⟨o, obj a o e ea⟩⟩, so, kpj⟩
      have st₂ : St G en (setV V₁ jarN (.own js')) Z' al s'.heap := {
        base := fun a o e => z a o (x₁.base a o e)
        fz := fz
        ns := let ⟨m, hm⟩ := x₁.ns; ⟨m, kns m hm⟩
        zl := let ⟨m, o, _, _, e, _⟩ := x₁.ns; zk _ x₁.zl ⟨o, e⟩
        cell := fun y c e => let ⟨u, hu⟩ := x₁.cell y c e; ⟨u, kc y c u e hu⟩
        zc := fun y c e => let ⟨u, o, e', _⟩ := x₁.cell y c e; zk _ (x₁.zc y c e) ⟨o, e'⟩
        cinj := x₁.cinj
        val := fun y d' e => by
          rcases look y _ e with ⟨_, eu⟩ | ⟨_, e⟩
          · cases eu
          · obtain ⟨w, l, r⟩ := x₁.val y d' e
            exact ⟨w, lds y w l, r.mono z⟩
        own := fun y es e => by
          rcases look y _ e with ⟨rfl, eu⟩ | ⟨hzy, e⟩
          · cases eu
            exact ⟨lds _ _ l, ow⟩
          · obtain ⟨l', hz', vs', m', ho', rs''⟩ := x₁.own y es e
            exact ⟨lds _ _ l', zk _ hz' ⟨_, ho'⟩, vs', m', obj _ _ ho' (fun ea => hzy (x₁.inj y jarN es js e hj ea)), rs''.mono z⟩
        inj := fun y z' es es' e e' ea => by
          obtain ⟨fs, e1⟩ := so y es e
          obtain ⟨fs', e2⟩ := so z' es' e'
          exact x₁.inj y z' fs fs' e1 e2 ea }
      exact EP.pre g₁ ⟨Z', _, r, g₂, st₂, rr, q⟩
    exact callWith_function (o := o) (evalArgs_plain main)
end
end Mine
end

section
open PySem PySem.W PyProof.Rows PySem.Calls
namespace Mine

def TOk {α : Type} (lt : Nat → Nat → Bool) (N : Nat) : KasT α → (α → Prop) → Prop
  | .ret a, Q => Q a
  | .ask i j k, Q => (i < N ∧ j < N) ∧ TOk lt N (k (lt i j)) Q
theorem TOk.bind {α β : Type} {lt : Nat → Nat → Bool} {N : Nat} {f : α → KasT β} {Q : β → Prop} : ∀ {t : KasT α}, TOk lt N t (fun a => TOk lt N (f a) Q) → TOk lt N (t.bind f) Q
  | .ret a, h => h
  | .ask i j k, h => ⟨h.1, TOk.bind h.2⟩
theorem TOk.mono {α : Type} {lt : Nat → Nat → Bool} {N : Nat} {P Q : α → Prop} (hq : ∀ a, P a → Q a) : ∀ {t : KasT α}, TOk lt N t P → TOk lt N t Q
  | .ret a, h => hq a h
  | .ask i j k, h => ⟨h.1, TOk.mono hq h.2⟩
theorem TOk.wp {α : Type} {lt : Nat → Nat → Bool} {N : Nat} {P : α → Prop} {Q : α → Shared → Prop} {cmp : Nat → Nat → (Bool → Shared → Prop) → Shared → Prop} {Inv : Shared → Prop}
    (hc : ∀ i j C s, i < N → j < N → Inv s → (∀ s', Inv s' → C (lt i j) s') → cmp i j C s) (hq : ∀ a s, P a → Inv s → Q a s) : ∀ {t : KasT α} {s : Shared}, Inv s → TOk lt N t P → t.kasWp cmp Q s
  | .ret a, s, hi, h => hq a s h hi
  | .ask i j k, s, hi, h => hc i j _ s h.1.1 h.1.2 hi fun s' hi' => TOk.wp hc hq hi' h.2

structure LinLt (lt : Nat → Nat → Bool) (N : Nat) : Prop where
  trans : ∀ i j k, i < N → j < N → k < N → lt i j = true → lt j k = true → lt i k = true
  asym : ∀ i j, i < N → j < N → lt i j = true → lt j i = false
  tot : ∀ i j, i < N → j < N → i ≠ j → lt i j = true ∨ lt j i = true

def gp (p : Array Nat) (i : Nat) : Nat := p.getD i 0
def PermP (N : Nat) (p : Array Nat) : Prop := p.Perm (List.toArray (List.range N))
theorem PermP.size {N : Nat} {p : Array Nat} (h : PermP N p) : p.size = N := by rw [Array.Perm.size_eq h]; simp
theorem gp_eq {p : Array Nat} {i : Nat} : gp p i = (p[i]?).getD 0 := by
  unfold gp; simp
theorem PermP.lt {N : Nat} {p : Array Nat} (h : PermP N p) (h0 : 0 < N) (i : Nat) : gp p i < N := by
  rw [gp_eq]
  cases e : p[i]? with
  | none => exact h0
  | some v =>
    have hm : v ∈ p := Array.mem_of_getElem? e
    have : v ∈ List.toArray (List.range N) := (Array.Perm.mem_iff h).mp hm
    simpa using this
theorem PermP.inj {N : Nat} {p : Array Nat} (h : PermP N p) {i j : Nat} (hi : i < N) (hj : j < N) (e : gp p i = gp p j) : i = j := by
  have hl : p.toList.Perm (List.range N) := Array.perm_iff_toList_perm.mp h
  have hnd : p.toList.Nodup := hl.nodup_iff.mpr List.nodup_range
  have hs := h.size
  have e1 : gp p i = p.toList[i]'(by simp; lia) := by rw [gp_eq, Array.getElem?_eq_getElem (by lia)]; simp
  have e2 : gp p j = p.toList[j]'(by simp; lia) := by rw [gp_eq, Array.getElem?_eq_getElem (by lia)]; simp
  rw [e1, e2] at e
  have hli : i < p.toList.length := by simp; lia
  have hlj : j < p.toList.length := by simp; lia
  have pw := List.pairwise_iff_getElem.mp hnd
  rcases Nat.lt_trichotomy i j with h | h | h
  · exact absurd e (pw i j hli hlj h)
  · exact h
  · exact absurd e.symm (pw j i hlj hli h)

def SortP (lt : Nat → Nat → Bool) (p : Array Nat) (k : Nat) : Prop := ∀ i j, i < j → j < k → lt (gp p i) (gp p j) = true
def DecP (lt : Nat → Nat → Bool) (p : Array Nat) (k : Nat) : Prop := ∀ i j, i < j → j < k → lt (gp p j) (gp p i) = true

section
variable {lt : Nat → Nat → Bool} {N : Nat} (L : LinLt lt N) (h0 : 0 < N)
include L h0
theorem asc_ok {p : Array Nat} (hp : PermP N p) : ∀ (f n : Nat), 1 ≤ n → n + f ≤ N → SortP lt p n →
    TOk lt N (kas_asc p f n) (fun m => n ≤ m ∧ m ≤ n + f ∧ SortP lt p m ∧ (m = n + f ∨ lt (gp p m) (gp p (m - 1)) = true))
  | 0, n, h1, hn, hs => ⟨Nat.le_refl _, Nat.le_refl _, hs, .inl rfl⟩
  | f + 1, n, h1, hn, hs => by
    refine ⟨⟨hp.lt h0 n, hp.lt h0 (n - 1)⟩, ?_⟩
    show TOk lt N (if lt (gp p n) (gp p (n - 1)) = true then .ret n else kas_asc p f (n + 1)) _
    by_cases hc : lt (gp p n) (gp p (n - 1)) = true
    · rw [if_pos hc]; exact ⟨Nat.le_refl _, by lia, hs, .inr hc⟩
    · rw [if_neg hc]
      have hlt : lt (gp p (n - 1)) (gp p n) = true := by
        rcases L.tot (gp p (n - 1)) (gp p n) (hp.lt h0 _) (hp.lt h0 _) (fun e => by have := hp.inj (by lia) (by lia) e; lia) with h | h
        · exact h
        · exact absurd h hc
      refine TOk.mono (fun m hm => ⟨by lia, by lia, hm.2.2.1, hm.2.2.2.imp (fun h => by lia) id⟩) (asc_ok hp f (n + 1) (by lia) (by lia) fun i j hij hj => ?_)
      by_cases hjn : j = n
      · subst hjn
        by_cases hi : i = j - 1
        · subst hi; exact hlt
        · exact L.trans _ _ _ (hp.lt h0 _) (hp.lt h0 _) (hp.lt h0 _) (hs i (j - 1) (by lia) (by lia)) hlt
      · exact hs i j hij (by lia)
theorem desc_ok {p : Array Nat} (hp : PermP N p) : ∀ (f n : Nat), 1 ≤ n → n + f ≤ N → DecP lt p n →
    TOk lt N (kas_desc f p n 0) (fun r => r.1 = p ∧ r.2.2 = 0 ∧ n ≤ r.2.1 ∧ r.2.1 ≤ n + f ∧ DecP lt p r.2.1)
  | 0, n, h1, hn, hs => ⟨rfl, rfl, Nat.le_refl _, Nat.le_refl _, hs⟩
  | f + 1, n, h1, hn, hs => by
    refine ⟨⟨hp.lt h0 n, hp.lt h0 (n - 1)⟩, ?_⟩
    show TOk lt N (if lt (gp p n) (gp p (n - 1)) = true then (if 0 > 0 then kas_desc f (kas_rev p (n - (0 + 1)) n) (n + 1) 0 else kas_desc f p (n + 1) 0)
      else .ask (gp p (n - 1)) (gp p n) fun d => if d = true then .ret (p, n, 0) else kas_desc f p (n + 1) (0 + 1)) _
    by_cases hc : lt (gp p n) (gp p (n - 1)) = true
    · rw [if_pos hc, if_neg (Nat.lt_irrefl 0)]
      refine TOk.mono (fun m hm => ⟨hm.1, hm.2.1, by lia, by lia, hm.2.2.2.2⟩) (desc_ok hp f (n + 1) (by lia) (by lia) fun i j hij hj => ?_)
      by_cases hjn : j = n
      · subst hjn
        by_cases hi : i = j - 1
        · subst hi; exact hc
        · exact L.trans _ _ _ (hp.lt h0 _) (hp.lt h0 _) (hp.lt h0 _) hc (hs i (j - 1) (by lia) (by lia))
      · exact hs i j hij (by lia)
    · rw [if_neg hc]
      refine ⟨⟨hp.lt h0 (n - 1), hp.lt h0 n⟩, ?_⟩
      have hlt : lt (gp p (n - 1)) (gp p n) = true := by
        rcases L.tot (gp p (n - 1)) (gp p n) (hp.lt h0 _) (hp.lt h0 _) (fun e => by have := hp.inj (by lia) (by lia) e; lia) with h | h
        · exact h
        · exact absurd h hc
      show TOk lt N (if lt (gp p (n - 1)) (gp p n) = true then .ret (p, n, 0) else kas_desc f p (n + 1) (0 + 1)) _
      rw [if_pos hlt]
      exact ⟨rfl, rfl, Nat.le_refl _, (by show n ≤ n + (f + 1); lia), hs⟩
theorem gp_rev {p : Array Nat} {n : Nat} (hn : n ≤ p.size) (k : Nat) : gp (kas_rev p 0 n) k = if k < n then gp p (n - 1 - k) else gp p k := by
  unfold kas_rev
  rw [gp_eq, getElem?_mirror_all hn, gp_eq, gp_eq]
  by_cases h : k < n
  · rw [if_pos ⟨Nat.zero_le _, h⟩, if_pos h]; congr 2; lia
  · rw [if_neg (fun c => h c.2), if_neg h]
theorem rev_perm {p : Array Nat} (hp : PermP N p) (n : Nat) : PermP N (kas_rev p 0 n) := Array.Perm.trans (mirror_perm p 0 n _) hp
theorem tail3_ok {p : Array Nat} (hp : PermP N p) {n : Nat} (h1 : 1 ≤ n) (hn : n ≤ N) (hd : DecP lt p n) :
    TOk lt N (kas_tail3 n N p) (fun r => PermP N r.2 ∧ 1 ≤ r.1 ∧ r.1 ≤ N ∧ SortP lt r.2 r.1) := by
  unfold kas_tail3
  have hs : SortP lt (kas_rev p 0 n) n := fun i j hij hj => by
    rw [gp_rev L h0 (by rw [hp.size]; exact hn), gp_rev L h0 (by rw [hp.size]; exact hn), if_pos (by lia), if_pos hj]
    exact hd (n - 1 - j) (n - 1 - i) (by lia) (by lia)
  refine TOk.bind (TOk.mono (fun m hm => ?_) (asc_ok L h0 (rev_perm L h0 hp n) (N - n) n h1 (by lia) hs))
  exact ⟨rev_perm L h0 hp n, by lia, by lia, hm.2.2.1⟩
theorem count_ok : TOk lt N (kas_count N (List.toArray (List.range N))) (fun r => PermP N r.2 ∧ 1 ≤ r.1 ∧ r.1 ≤ N ∧ SortP lt r.2 r.1) := by
  have hp : PermP N (List.toArray (List.range N)) := Array.Perm.refl _
  unfold kas_count
  refine TOk.bind (TOk.mono (fun m hm => ?_) (asc_ok L h0 hp (N - 1) 1 (Nat.le_refl _) (by lia) fun i j _ _ => by lia))
  obtain ⟨h1, h2, h3, h4⟩ := hm
  by_cases hmn : (m == N) = true
  · rw [if_pos hmn]; exact ⟨hp, h1, by lia, h3⟩
  · rw [if_neg hmn]
    have hmn' : m ≠ N := fun e => hmn (by simp [e])
    by_cases hm1 : m > 1
    · rw [if_pos hm1]
      refine ⟨⟨hp.lt h0 0, hp.lt h0 (m - 1)⟩, ?_⟩
      show TOk lt N (if lt (gp _ 0) (gp _ (m - 1)) = true then _ else _) _
      rw [if_pos (h3 0 (m - 1) (by lia) (by lia))]
      exact ⟨hp, h1, by lia, h3⟩
    · rw [if_neg hm1]
      have hm : m = 1 := by lia
      subst hm
      have hlt : lt (gp (List.toArray (List.range N)) 1) (gp (List.toArray (List.range N)) 0) = true := by
        rcases h4 with h4 | h4
        · lia
        · exact h4
      unfold kas_descPart
      refine TOk.bind (TOk.mono (fun r hr => ?_) (desc_ok L h0 hp (N - (1 + 1)) (1 + 1) (by lia) (by lia) fun i j hij hj => ?_))
      · obtain ⟨r1, r2, r3, r4, r5⟩ := hr
        rw [if_neg (by rw [r2]; lia), r1]
        exact tail3_ok L h0 hp (by lia) (by lia) r5
      · have : i = 0 := by lia
        have : j = 1 := by lia
        subst i; subst j; exact hlt
theorem place_ok {p : Array Nat} (hp : PermP N p) {k : Nat} (hk : k < N) (hs : SortP lt p k) : ∀ (f l r : Nat), l ≤ r → r ≤ k → r - l ≤ f → (∀ i, i < l → lt (gp p i) (gp p k) = true) → (∀ i, r ≤ i → i < k → lt (gp p k) (gp p i) = true) →
    TOk lt N (kas_place p k f l r) (fun m => m ≤ k ∧ (∀ i, i < m → lt (gp p i) (gp p k) = true) ∧ ∀ i, m ≤ i → i < k → lt (gp p k) (gp p i) = true)
  | 0, l, r, hlr, hr, hf, h1, h2 => ⟨by lia, h1, fun i hi hik => h2 i (by lia) hik⟩
  | f + 1, l, r, hlr, hr, hf, h1, h2 => by
    unfold kas_place
    by_cases hc : l ≥ r
    · rw [if_pos hc]; exact ⟨by lia, h1, fun i hi hik => h2 i (by lia) hik⟩
    · rw [if_neg hc]
      refine ⟨⟨hp.lt h0 _, hp.lt h0 _⟩, ?_⟩
      show TOk lt N (if lt (gp p k) (gp p ((l + r) / 2)) = true then _ else _) _
      by_cases ha : lt (gp p k) (gp p ((l + r) / 2)) = true
      · rw [if_pos ha]
        refine place_ok hp hk hs f l _ (by lia) (by lia) (by lia) h1 fun i hi hik => ?_
        by_cases he : i = (l + r) / 2
        · rw [he]; exact ha
        · exact L.trans _ _ _ (hp.lt h0 _) (hp.lt h0 _) (hp.lt h0 _) ha (hs _ _ (by lia) hik)
      · rw [if_neg ha]
        have hb : lt (gp p ((l + r) / 2)) (gp p k) = true := by
          rcases L.tot (gp p ((l + r) / 2)) (gp p k) (hp.lt h0 _) (hp.lt h0 _) (fun e => by have := hp.inj (by lia) hk e; lia) with h | h
          · exact h
          · exact absurd h ha
        refine place_ok hp hk hs f _ r (by lia) (by lia) (by lia) (fun i hi => ?_) h2
        by_cases he : i = (l + r) / 2
        · rw [he]; exact hb
        · exact L.trans _ _ _ (hp.lt h0 _) (hp.lt h0 _) (hp.lt h0 _) (hs i ((l + r) / 2) (by lia) (by lia)) hb
theorem bin_ok : ∀ (f : Nat) (p : Array Nat) (k : Nat), PermP N p → 1 ≤ k → k + f = N → SortP lt p k → TOk lt N (kas_bin f p k) (fun q => PermP N q ∧ SortP lt q N)
  | 0, p, k, hp, h1, hk, hs => ⟨hp, by rw [← hk]; exact hs⟩
  | f + 1, p, k, hp, h1, hk, hs => by
    unfold kas_bin
    refine TOk.bind (TOk.mono (fun l hl => ?_) (place_ok L h0 hp (by lia) hs k 0 k (by lia) (Nat.le_refl _) (by lia) (fun i hi => by lia) fun i hi hik => by lia))
    obtain ⟨h2, h3, h4⟩ := hl
    have hg : ∀ i, gp (bubble p k (k - l)) i = if i = l then gp p k else if l < i ∧ i ≤ k then gp p (i - 1) else gp p i := fun i => by
      rw [gp_eq, getElem?_bubble (by rw [hp.size]; lia) _ (by lia)]
      have e : k - (k - l) = l := by lia
      rw [e]
      by_cases ha : i = l
      · rw [if_pos ha, if_pos ha, gp_eq]
      · rw [if_neg ha, if_neg ha]
        by_cases hb : l < i ∧ i ≤ k
        · rw [if_pos hb, if_pos hb, gp_eq]
        · rw [if_neg hb, if_neg hb, gp_eq]
    refine bin_ok f _ (k + 1) (Array.Perm.trans (bubble_perm p k _) hp) (by lia) (by lia) fun i j hij hj => ?_
    rw [hg, hg]
    by_cases a1 : i = l
    · rw [if_pos a1, if_neg (by lia), if_pos ⟨by lia, by lia⟩]
      exact h4 (j - 1) (by lia) (by lia)
    · rw [if_neg a1]
      by_cases a2 : l < i ∧ i ≤ k
      · rw [if_pos a2, if_neg (by lia), if_pos ⟨by lia, by lia⟩]
        exact hs (i - 1) (j - 1) (by lia) (by lia)
      · rw [if_neg a2]
        by_cases b1 : j = l
        · rw [if_pos b1]; exact h3 i (by lia)
        · rw [if_neg b1]
          by_cases b2 : l < j ∧ j ≤ k
          · rw [if_pos b2]
            by_cases c : i = j - 1
            · lia
            · exact hs i (j - 1) (by lia) (by lia)
          · rw [if_neg b2]; exact hs i j hij (by lia)
theorem sort_ok : TOk lt N (kas_sort N) (fun q => PermP N q ∧ SortP lt q N) := by
  unfold kas_sort
  refine TOk.bind (TOk.mono (fun r hr => ?_) (count_ok L h0))
  obtain ⟨h1, h2, h3, h4⟩ := hr
  by_cases hc : r.1 < N
  · rw [if_pos hc]
    have e : max r.1 1 = r.1 := by lia
    rw [e]
    exact bin_ok L h0 _ _ _ h1 h2 (by lia) h4
  · rw [if_neg hc]
    have e : r.1 = N := by lia
    exact ⟨h1, by rw [← e]; exact h4⟩
end
end Mine
end

section
open PySem PySem.W PyProof.Rows PySem.Calls
namespace Mine

theorem getD_lt {α : Type} {l : List α} {i : Nat} {d : α} (h : i < l.length) : l.getD i d = l[i] := by rw [List.getD_eq_getElem?_getD, List.getElem?_eq_getElem h]; rfl
def pairD (a : Int × Int) : D := .tup [.int a.1, .int a.2]
/-- tuples of two ints in the heap -/
def Tup2 (h : Heap) : List (Int × Int) → List Value → Prop
  | [], vs => vs = []
  | a :: as, vs => ∃ r, ∃ (T : Addr) (o : Obj) (t u : Tok) (n : Nat), vs = .ref T :: r ∧ h.get? T = some o ∧ o.cls = .type "tuple" ∧ o.data = .seq #[.int a.1 t, .int a.2 u] n ∧ Tup2 h as r
section
variable {G : GC} {n : Nat} {sc : Scope} {en : Env} {V V' : VM} {Z Z' : Zm} {al : Str → Addr} {h h' : Heap} {s s' s'' s₀ s₁ : Shared} {A : Around} {E : Value → Shared → Prop}
theorem tup2_of (x : St G en V Z al h) : ∀ {ps : List (Int × Int)} {vs : List Value}, Reps Z (ps.map pairD) vs → Tup2 h ps vs
  | [], vs, r => r
  | a :: as, vs, ⟨v, r, e, rd, rs⟩ => by
    obtain ⟨T, us, rfl, ⟨o, k, hz, hc, hd⟩, w, r', eu, ⟨t, rfl⟩, w2, r2, eu2, ⟨u, rfl⟩, eu3⟩ := rd
    rw [show r2 = [] from eu3] at eu2
    subst eu2
    subst eu
    exact ⟨r, T, o, t, u, k, e, x.fz _ _ hz, hc, hd, tup2_of x rs⟩
theorem Tup2.len {h : Heap} : ∀ {ps : List (Int × Int)} {vs : List Value}, Tup2 h ps vs → vs.length = ps.length
  | [], vs, e => by rw [show vs = [] from e]; rfl
  | a :: as, vs, ⟨r, _, _, _, _, _, e, _, _, _, hs⟩ => by rw [e, List.length_cons, List.length_cons, hs.len]
theorem Tup2.get {h : Heap} : ∀ {ps : List (Int × Int)} {vs : List Value}, Tup2 h ps vs → ∀ i (hi : i < ps.length), ∃ (T : Addr) (o : Obj) (t u : Tok) (n : Nat), vs.getD i .none = .ref T ∧ h.get? T = some o ∧ o.cls = .type "tuple" ∧ o.data = .seq #[.int (ps[i]).1 t, .int (ps[i]).2 u] n
  | [], _, _, i, hi => absurd hi (Nat.not_lt_zero _)
  | a :: as, vs, ⟨r, T, o, t, u, n, e, h1, h2, h3, hs⟩, 0, hi => by subst e; exact ⟨T, o, t, u, n, rfl, h1, h2, h3⟩
  | a :: as, vs, ⟨r, T, o, t, u, n, e, h1, h2, h3, hs⟩, i + 1, hi => by subst e; exact hs.get i (Nat.lt_of_succ_lt_succ hi)
theorem Tup2.keep {h h' : Heap} (k : ∀ a o, h.get? a = some o → (∃ xs m, o.data = .seq xs m) → h'.get? a = some o) : ∀ {ps : List (Int × Int)} {vs : List Value}, Tup2 h ps vs → Tup2 h' ps vs
  | [], _, e => e
  | a :: as, vs, ⟨r, T, o, t, u, n, e, h1, h2, h3, hs⟩ => ⟨r, T, o, t, u, n, e, k _ _ h1 ⟨_, _, h3⟩, h2, h3, hs.keep k⟩
theorem Tup2.kat {h : Heap} : ∀ {ps : List (Int × Int)} {vs : List Value}, Tup2 h ps vs → ∃ fs : List Value, KatTups h vs fs ∧ fs.length = ps.length ∧ ∀ v ∈ fs, ∃ i t, v = .int i t
  | [], _, e => by rw [show _ = [] from e]; exact ⟨[], KatTups.nil, rfl, fun _ h => nomatch h⟩
  | a :: as, vs, ⟨r, T, o, t, u, n, e, h1, h2, h3, hs⟩ => by
    obtain ⟨fs, k1, k2, k3⟩ := hs.kat
    subst e
    refine ⟨.int a.1 t :: fs, KatTups.cons h1 h2 h3 rfl k1, by rw [List.length_cons, List.length_cons, k2], fun v hv => ?_⟩
    rcases List.mem_cons.mp hv with rfl | hv
    · exact ⟨_, _, rfl⟩
    · exact k3 v hv

theorem lt_tup {x y : Addr} {ox oy : Obj} {a b c d : Int} {t u v w : Tok} {n k : Nat} {C : Bool → Shared → Prop} (hx : s.heap.get? x = some ox) (dx : ox.data = .seq #[.int a t, .int b u] n) (hy : s.heap.get? y = some oy) (dy : oy.data = .seq #[.int c v, .int d w] k)
    (q : ∀ s', s'.heap = s.heap → Kp s s' → C (lexlt (a, b) (c, d)) s') : wpAny (model G.prog G.w) A (keyLt' (tuples' true) (.ref x) (.ref y)) C E s := by
  refine kat_lt hx dx hy dy ?_
  show KatLex G.prog G.w A true _ C [(.int a t, .int c v), (.int b u, .int d w)] 0 s
  refine kat_cons (wpAny_eqBool_int ?_)
  refine kat_go (fun he => kat_yes ?_) (fun he => kat_no ?_)
  · refine kat_cons (wpAny_eqBool_int ?_)
    have he := beq_iff_eq.mp he
    refine kat_go (fun he2 => kat_yes (kat_nil ?_)) (fun he2 => kat_no ?_)
    · have := q s rfl (.refl _)
      have he2 := beq_iff_eq.mp he2
      have e1 : lexlt (a, b) (c, d) = false := by unfold lexlt; subst he; subst he2; simp
      rw [e1] at this
      exact this
    · show wpAny _ A (oneLt' false _ _) C _ s
      refine kat_one _ _ (PySem.P.lt_int ?_)
      have := q s rfl (.refl _)
      have he2 : b ≠ d := fun e => by simp [e] at he2
      have e1 : lexlt (a, b) (c, d) = decide (b < d) := by unfold lexlt; subst he; simp
      rw [e1] at this
      exact this
  · show wpAny _ A (oneLt' true _ _) C _ s
    refine oneLt_int ?_
    have := q s rfl (.refl _)
    have he : a ≠ c := fun e => by simp [e] at he
    have e1 : lexlt (a, b) (c, d) = decide (a < c) := by unfold lexlt; simp [he]
    rw [e1] at this
    exact this

theorem lexlt_lin {ps : List (Int × Int)} (hnd : ps.Nodup) : LinLt (fun i j => lexlt (ps.getD i (0, 0)) (ps.getD j (0, 0))) ps.length where
  trans := fun i j k _ _ _ h1 h2 => by
    simp only [lexlt, Bool.or_eq_true, Bool.and_eq_true, decide_eq_true_eq, beq_iff_eq] at h1 h2 ⊢
    lia
  asym := fun i j _ _ h => by
    have : ¬ lexlt (ps.getD j (0, 0)) (ps.getD i (0, 0)) = true := fun h2 => by
      simp only [lexlt, Bool.or_eq_true, Bool.and_eq_true, decide_eq_true_eq, beq_iff_eq] at h h2
      lia
    simpa using this
  tot := fun i j hi hj hne => by
    simp only [lexlt, Bool.or_eq_true, Bool.and_eq_true, decide_eq_true_eq, beq_iff_eq]
    have hne' : ps.getD i (0, 0) ≠ ps.getD j (0, 0) := by
      rw [getD_lt hi, getD_lt hj]
      have pw := List.pairwise_iff_getElem.mp hnd
      rcases Nat.lt_trichotomy i j with h | h | h
      · exact pw i j hi hj h
      · exact absurd h hne
      · exact fun e => pw j i hj hi h e.symm
    have : (ps.getD i (0, 0)).1 ≠ (ps.getD j (0, 0)).1 ∨ (ps.getD i (0, 0)).2 ≠ (ps.getD j (0, 0)).2 := by
      by_cases h : (ps.getD i (0, 0)).1 = (ps.getD j (0, 0)).1
      · exact .inr fun h2 => hne' (Prod.ext h h2)
      · exact .inl h
    lia
theorem reps_pick {ps : List D} {vs : List Value} (r : Reps Z ps vs) : ∀ (l : List Nat) (d₀ : D), (∀ i ∈ l, i < ps.length) → Reps Z (l.map fun i => ps.getD i d₀) (l.map fun i => vs.getD i .none)
  | [], _, _ => rfl
  | i :: l, d₀, h => by
    have hi := h i List.mem_cons_self
    obtain ⟨v, hv, rd⟩ := r.get i (ps[i]) (List.getElem?_eq_getElem hi)
    refine Reps.cons ?_ (reps_pick r l d₀ fun j hj => h j (List.mem_cons_of_mem _ hj))
    have e1 : ps.getD i d₀ = ps[i] := getD_lt hi
    have e2 : vs.getD i .none = v := by rw [List.getD_eq_getElem?_getD, hv]; rfl
    show Rep Z (ps.getD i d₀) (vs.getD i .none)
    rw [e1, e2]; exact rd
theorem call_sortedT {ps : List (Int × Int)} {Q : R → VM → Prop} (h2 : 2 ≤ ps.length) (h64 : ps.length < 64) (hnd : ps.Nodup)
    (q : ∀ qs : List (Int × Int), qs.Perm ps → qs.Pairwise (fun a b => lexlt a b = true) → Q (.new (qs.map pairD)) V) : CallP G n (.builtin "sorted") [.list (ps.map pairD)] V Q :=
  fun en A E s Z al vs rm x r => by
    obtain ⟨v, r', rfl, ⟨la, ws, rfl, z, rs⟩, hr⟩ := r
    rw [show r' = [] from hr]
    have t2 := tup2_of x rs
    have hlen := t2.len
    obtain ⟨m, hm⟩ := x.ns
    have hE : ∀ b, ({ s.heap with objs := #[] } : Heap).get? b = none := fun b => by
      cases e : ({ s.heap with objs := #[] } : Heap).get? b with
      | none => rfl
      | some o => exact absurd (Heap.lt_size e) (Nat.not_lt_zero _)
    have mem : ∀ a o, s.heap.get? a = some o → a ≠ en.locals → (a, o) ∈ (List.range s.heap.objs.size).filterMap (fun a => if a = en.locals then none else (s.heap.get? a).map fun o => (a, o)) := fun a o e hl => by
      refine List.mem_filterMap.mpr ⟨a, List.mem_range.mpr (Heap.lt_size e), ?_⟩
      rw [if_neg hl, e]; rfl
    have N : News ({ s.heap with objs := #[] } : Heap) en.locals s.heap ((List.range s.heap.objs.size).filterMap (fun a => if a = en.locals then none else (s.heap.get? a).map fun o => (a, o))) := fun p hp => by
      obtain ⟨a, _, e⟩ := List.mem_filterMap.mp hp
      split at e
      · cases e
      · rename_i hl
        obtain ⟨o, ho, rfl⟩ := Option.map_eq_some_iff.mp e
        exact ⟨ho, hl, hE _⟩
    generalize (List.range s.heap.objs.size).filterMap (fun a => if a = en.locals then none else (s.heap.get? a).map fun o => (a, o)) = olds at mem N
    refine kat_sorted (h₀ := { s.heap with objs := #[] }) (L := en.locals) (m := m) (news := olds) ⟨hm, fun b o e => (by rw [hE] at e; cases e), Nat.zero_le _⟩ N (z.list x) (by lia) (by lia) fun Da e1 h' F' N' hlt => ?_
    have kk : ∀ a o, s.heap.get? a = some o → a ≠ en.locals → h'.get? a = some o := fun a o e hl => (N' (a, o) (List.mem_cons_of_mem _ (mem a o e hl))).1
    have hDl : Da ≠ en.locals := (N' _ (.head _)).2.1
    have hDn : s.heap.get? Da = none := by
      cases e : s.heap.get? Da with
      | none => rfl
      | some o => exact absurd (hlt _ (mem Da o e hDl)) (Nat.lt_irrefl _)
    have t2' : Tup2 h' ps ws := t2.keep fun a o e ⟨xs, k, hc⟩ => kk a o e fun ea => by
      obtain ⟨o', es, ep, e', hd', _⟩ := hm
      rw [ea, e'] at e; cases e; rw [hd'] at hc; cases hc
    obtain ⟨fs, k1, k2, k3⟩ := t2'.kat
    refine kat_kind (s := { s with heap := h' }) (T := .type "int") k1 (by lia) (fun v hv => ?_) rfl ?_
    · obtain ⟨i, t, rfl⟩ := k3 v hv
      exact Looks.of_pure rfl
    show (kas_sort ws.length).kasWp (kas_ask G.prog G.w A.in1.in1 (tuples' true) ws) _ _
    rw [hlen]
    refine TOk.wp (N := ps.length) (lt := fun i j => lexlt (ps.getD i (0, 0)) (ps.getD j (0, 0))) (Inv := fun s' => s'.heap = h' ∧ Kp s s') (fun i j C s' hi hj hII hC => ?_) (fun p s' hp hII => ?_) ⟨rfl, rfl, rfl⟩ (sort_ok (lexlt_lin hnd) (by lia))
    · obtain ⟨hI, hkp⟩ := hII
      obtain ⟨T, o, t, u, k, a1, a2, a3, a4⟩ := t2'.get i hi
      obtain ⟨T2, o2, t', u', k', b1, b2, b3, b4⟩ := t2'.get j hj
      unfold kas_ask
      rw [a1, b1]
      refine lt_tup (by rw [hI]; exact a2) a4 (by rw [hI]; exact b2) b4 fun s'' e kp2 => ?_
      have := hC s'' ⟨e.trans hI, hkp.trans kp2⟩
      simp only [getD_lt hi, getD_lt hj] at this
      exact this
    · obtain ⟨hI, hkp⟩ := hII
      refine KasFin.intro (by rw [hI]; exact F') (by rw [hI]; exact N') (.head fun p hp e => ?_) fun h'' c F'' N'' => ?_
      · have := hlt p hp
        rw [e] at this
        exact Nat.lt_irrefl _ this
      · have kk2 : ∀ a o, s.heap.get? a = some o → a ≠ en.locals → h''.get? a = some o := fun a o e hl => (N'' (a, o) (List.mem_cons_of_mem _ (mem a o e hl))).1
        have kn : ∀ m', s.heap.Ns en.locals m' → h''.Ns en.locals m' := fun m' hm' => by rw [← ns_unique hm hm']; exact F''.ns
        have dom : ∀ a o, s.heap.get? a = some o → ∃ o', h''.get? a = some o' := fun a o e => by
          by_cases hl : a = en.locals
          · obtain ⟨o', _, _, e', _⟩ := F''.ns
            exact ⟨o', hl ▸ e'⟩
          · exact ⟨o, kk2 a o e hl⟩
        obtain ⟨hp1, hp2⟩ := hp
        have hpl : ∀ i ∈ p.toList, i < ps.length := fun i hi => by
          have : i ∈ List.toArray (List.range ps.length) := (Array.Perm.mem_iff hp1).mp (by simpa using hi)
          simpa using this
        have hD' := (N'' _ (.head _)).1
        refine ⟨Z, V, .new ((p.toList.map fun i => ps.getD i (0, 0)).map pairD), ⟨.refl Z, fun _ _ e => .inl e, ⟨fun a o e _ hl => kk2 a o e hl, kn, dom⟩, .refl V, hkp⟩, x.ke (fun a o e hl => kk2 a o e hl) kn, ⟨Da, rfl, hDn, ?_, _, c, hD', ?_⟩, q _ ?_ ?_⟩
        · cases e : Z Da with
          | none => rfl
          | some o => rw [x.fz _ _ e] at hDn; cases hDn
        · have := reps_pick rs p.toList (pairD (0, 0)) (fun i hi => by rw [List.length_map]; exact hpl i hi)
          rw [List.map_map]
          have e : (p.toList.map fun i => (ps.map pairD).getD i (pairD (0, 0))) = p.toList.map (pairD ∘ fun i => ps.getD i (0, 0)) := List.map_congr_left fun i hi => by
            show _ = pairD (ps.getD i (0, 0))
            rw [getD_lt (by rw [List.length_map]; exact hpl i hi), List.getElem_map, getD_lt (hpl i hi)]
          rw [← e]; exact this
        · have hl : p.toList.Perm (List.range ps.length) := Array.perm_iff_toList_perm.mp hp1
          have h1 := hl.map (fun i => ps.getD i (0, 0))
          have e : (List.range ps.length).map (fun i => ps.getD i (0, 0)) = ps := by
            refine List.ext_getElem (by simp) fun i h1 h2 => ?_
            rw [List.getElem_map, List.getElem_range, getD_lt h2]
          rwa [e] at h1
        · rw [List.pairwise_iff_getElem]
          intro i j hi hj hij
          rw [List.getElem_map, List.getElem_map]
          have hsz := PermP.size hp1
          rw [List.length_map, Array.length_toList] at hi hj
          have h3 := hp2 i j hij (by lia)
          have g1 : gp p i = p[i] := by rw [gp_eq, Array.getElem?_eq_getElem hi]; rfl
          have g2 : gp p j = p[j] := by rw [gp_eq, Array.getElem?_eq_getElem hj]; rfl
          rw [g1, g2] at h3
          simpa using h3
end
end Mine
end

section
open PySem PySem.W PyProof.Rows PySem.Calls
namespace Mine

def Sub (V V' : VM) : Prop := ∀ x v, V.lookup x = some v → V'.lookup x = some v
def SubL : VM → VM → Prop
  | [], _ => True
  | p :: r, V' => V'.lookup p.1 = some p.2 ∧ SubL r V'
theorem SubL.sub : ∀ {V V' : VM}, SubL V V' → Sub V V'
  | [], _, _ => fun x v e => by cases e
  | (y, u) :: r, V', h => fun x v e => by
    rw [List.lookup_cons] at e
    by_cases hx : x = y
    · subst hx; simp at e; rw [← e]; exact h.1
    · have hb : (x == y) = false := beq_eq_false_iff_ne.mpr hx
      rw [hb] at e; exact SubL.sub h.2 x v e
/-- in one stroke -/
theorem SubL.one {V V' : VM} (h : (V.map fun p => V'.lookup p.1) = V.map fun p => some p.2) : Sub V V' := by
  refine SubL.sub ?_
  induction V with
  | nil => trivial
  | cons p r ih =>
    rw [List.map_cons, List.map_cons] at h
    injection h with h1 h2
    exact ⟨h1, ih h2⟩
theorem Sub.refl (V : VM) : Sub V V := fun _ _ e => e
theorem Sub.trans {V V' V'' : VM} (a : Sub V V') (b : Sub V' V'') : Sub V V'' := fun x v e => b x v (a x v e)
theorem Sub.set {V V' : VM} (a : Sub V V') (x : Str) (v : Val) : Sub (setV V x v) (setV V' x v) := fun y u e => by
  rw [lookup_setV] at e ⊢
  by_cases h : y = x
  · rw [if_pos h] at e ⊢; exact e
  · rw [if_neg h] at e ⊢; exact a y u e
theorem Sub.setVs {V V' : VM} : ∀ (l : List (Str × R)) {V V' : VM}, Sub V V' → Sub (Mine.setVs V l) (Mine.setVs V' l)
  | [], _, _, a => a
  | (x, r) :: l, _, _, a => Sub.setVs (V := V) (V' := V') l (a.set x r.val)
theorem bindT_sub {target : Expr} {d : D} {V V' V₁ : VM} (a : Sub V V') (hb : bindT target d V = some V₁) : ∃ V₁', bindT target d V' = some V₁' ∧ Sub V₁ V₁' := by
  cases target with
  | Name x p => cases hb; exact ⟨_, rfl, a.set x _⟩
  | Tuple es k p =>
    cases d with
    | tup ds =>
      unfold bindT at hb ⊢
      cases hx : namesOf es with
      | none => simp only [hx] at hb; cases hb
      | some xs =>
        simp only [hx] at hb ⊢
        split at hb
        · rename_i hl
          cases hb
          exact ⟨_, by rw [if_pos hl], Sub.setVs (V := V) (V' := V') _ a⟩
        · cases hb
    | _ => cases hb
  | _ => cases hb

section
variable {W : Str → Prop} {G : GC} {n : Nat} {sc scope : Scope} {en ce : Env} {V V' V'' V₀ V₁ Vc Vn : VM} {Z Z' Z'' Z₀ Z₁ Zn : Zm} {al al' al'' al₀ : Str → Addr} {h h' h'' h₀ h₂ h₃ : Heap} {s s' s'' s₀ s₁ s₂ : Shared} {A : Around} {E : Value → Shared → Prop}

theorem St.sub (x : St G en V' Z al h) (k : Sub V V') : St G en V Z al h :=
  { base := x.base, fz := x.fz, ns := x.ns, zl := x.zl, cell := x.cell, zc := x.zc, cinj := x.cinj, val := fun y d e => x.val y d (k y _ e), own := fun y ds e => x.own y ds (k y _ e), inj := fun y z ds es e e' => x.inj y z ds es (k y _ e) (k z _ e') }
theorem Sub.we (k : Sub V V') {a : Addr} (w : WE V al a) : WE V' al a := let ⟨x, ds, e, ea⟩ := w; ⟨x, ds, k x _ e, ea⟩
theorem Sub.so (k : Sub V V') (so : SubOwn V V₁) : SubOwn V' V₁ := fun x ds e => let ⟨es, e'⟩ := so x ds e; ⟨es, k x _ e'⟩
theorem Sub.so' (k : Sub V V') : SubOwn V' V := fun x ds e => ⟨ds, k x _ e⟩
theorem Go.sub (g : Go en V Z al s V₁ Z₁ s') (k : Sub V V') : Go en V' Z al s V₁ Z₁ s' :=
  ⟨g.z, fun a o e => (g.zn a o e).imp id (·.imp k.we id), ⟨fun a o e w l => g.ke.obj a o e (fun w' => w (k.we w')) l, g.ke.ns, g.ke.dom⟩, k.so g.so, g.kp⟩
theorem Go.subR (g : Go en V Z al s V' Z₁ s') (k : Sub V₁ V') : Go en V Z al s V₁ Z₁ s' := ⟨g.z, g.zn, g.ke, g.so.trans k.so', g.kp⟩
theorem GoS.sub (g : GoS W en V Z al s V₁ Z₁ al' s') (k : Sub V V') : GoS W en V' Z al s V₁ Z₁ al' s' :=
  ⟨g.z, fun a o e => (g.zn a o e).imp id (·.imp k.we id), fun a o e w l c => g.obj a o e (fun w' => w (k.we w')) l c, g.dom, fun x ds e => (g.own x ds e).imp (fun hq12 => by obtain ⟨y, es, e1, e2⟩ := hq12; exact ⟨y, es, k y _ e1, e2⟩) id, g.alk, g.kp⟩
theorem GoS.subR (g : GoS W en V Z al s V' Z₁ al' s') (k : Sub V₁ V') : GoS W en V Z al s V₁ Z₁ al' s' :=
  ⟨g.z, g.zn, g.obj, g.dom, fun x ds e => g.own x ds (k x _ e), g.alk, g.kp⟩

theorem EvQ.sub {e : Expr} {Q : R → VM → Prop} (hq : EvQ G n sc e V Q) (k : Sub V V') : EvQ G n sc e V' Q :=
  fun en A E s Z al ek rm st => wpAny_mono (hq en A E s Z al ek rm (st.sub k)) (fun v s' hq11 => by obtain ⟨Z', V₁, r, g, x, rr, q⟩ := hq11; exact ⟨Z', V₁, r, g.sub k, x, rr, q⟩) fun _ _ e => e
theorem EvD.sub {e : Expr} {Q : D → VM → Prop} (hq : EvD G n sc e V Q) (k : Sub V V') : EvD G n sc e V' Q :=
  fun en A E s Z al ek rm st => wpAny_mono (hq en A E s Z al ek rm (st.sub k)) (fun v s' hq10 => by obtain ⟨Z', V₁, r, g, x, rr, q⟩ := hq10; exact ⟨Z', V₁, r, g.sub k, x, rr, q⟩) fun _ _ e => e
theorem CoQ.sub {e : Expr} {Q : Bool → VM → Prop} (hq : CoQ G n sc e V Q) (k : Sub V V') : CoQ G n sc e V' Q :=
  fun en A E s Z al ek rm st => wpAny_mono (hq en A E s Z al ek rm (st.sub k)) (fun v s' hq9 => by obtain ⟨Z', V₁, g, x, q⟩ := hq9; exact ⟨Z', V₁, g.sub k, x, q⟩) fun _ _ e => e
theorem TestQ.sub {ifs : List Expr} {Q : Bool → VM → Prop} (hq : TestQ G n sc ifs V Q) (k : Sub V V') (hQ : ∀ b V₁ V₂, Sub V₁ V₂ → Q b V₁ → Q b V₂) : TestQ G n sc ifs V' Q := by
  match ifs, hq with
  | [], hq => exact hQ true V V' k hq
  | [c], hq => exact CoQ.sub hq k
theorem ExL.sub {t : List Stmt} {Q : Fl → VM → Prop} (hq : ExL G n sc t V Q) (k : Sub V V') : ExL G n sc t V' Q :=
  fun en A E s Z al ek rm st => wpAny_mono (hq en A E s Z al ek rm (st.sub k)) (fun v s' hq8 => by obtain ⟨Z', V₁, al', r, g, x, rr, q⟩ := hq8; exact ⟨Z', V₁, al', r, g.sub k, x, rr, q⟩) fun _ _ e => e
theorem EvQ.post {e : Expr} {P Q : R → VM → Prop} (hq : EvQ G n sc e V P) (k : ∀ r V', P r V' → ∃ V'', Sub V'' V' ∧ Q r V'') : EvQ G n sc e V Q :=
  fun en A E s Z al ek rm st => wpAny_mono (hq en A E s Z al ek rm st) (fun v s' hq7 => by obtain ⟨Z', V₁, r, g, x, rr, q⟩ := hq7; exact let ⟨V₂, a, q'⟩ := k r V₁ q; ⟨Z', V₂, r, g.subR a, x.sub a, rr, q'⟩) fun _ _ e => e
theorem EvD.post {e : Expr} {P Q : D → VM → Prop} (hq : EvD G n sc e V P) (k : ∀ r V', P r V' → ∃ V'', Sub V'' V' ∧ Q r V'') : EvD G n sc e V Q :=
  fun en A E s Z al ek rm st => wpAny_mono (hq en A E s Z al ek rm st) (fun v s' hq6 => by obtain ⟨Z', V₁, r, g, x, rr, q⟩ := hq6; exact let ⟨V₂, a, q'⟩ := k r V₁ q; ⟨Z', V₂, r, g.subR a, x.sub a, rr, q'⟩) fun _ _ e => e
theorem CoQ.post {e : Expr} {P Q : Bool → VM → Prop} (hq : CoQ G n sc e V P) (k : ∀ r V', P r V' → ∃ V'', Sub V'' V' ∧ Q r V'') : CoQ G n sc e V Q :=
  fun en A E s Z al ek rm st => wpAny_mono (hq en A E s Z al ek rm st) (fun v s' hq5 => by obtain ⟨Z', V₁, g, x, q⟩ := hq5; exact let ⟨V₂, a, q'⟩ := k v V₁ q; ⟨Z', V₂, g.subR a, x.sub a, q'⟩) fun _ _ e => e
theorem ExS.post {t : Stmt} {P Q : Fl → VM → Prop} (hq : ExS G n sc t V P) (k : ∀ r V', P r V' → ∃ V'', Sub V'' V' ∧ Q r V'') : ExS G n sc t V Q :=
  fun en A E s Z al ek rm st => wpAny_mono (hq en A E s Z al ek rm st) (fun v s' hq4 => by obtain ⟨Z', V₁, al', r, g, x, rr, q⟩ := hq4; exact let ⟨V₂, a, q'⟩ := k r V₁ q; ⟨Z', V₂, al', r, g.subR a, x.sub a, rr, q'⟩) fun _ _ e => e
theorem ExL.post {t : List Stmt} {P Q : Fl → VM → Prop} (hq : ExL G n sc t V P) (k : ∀ r V', P r V' → ∃ V'', Sub V'' V' ∧ Q r V'') : ExL G n sc t V Q :=
  fun en A E s Z al ek rm st => wpAny_mono (hq en A E s Z al ek rm st) (fun v s' hq3 => by obtain ⟨Z', V₁, al', r, g, x, rr, q⟩ := hq3; exact let ⟨V₂, a, q'⟩ := k r V₁ q; ⟨Z', V₂, al', r, g.subR a, x.sub a, rr, q'⟩) fun _ _ e => e
/-- a list that will not change any more -/
theorem exL_frz {t : List Stmt} {y : Str} {ds : List D} {Q : Fl → VM → Prop} (hv : V.lookup y = some (.own ds)) (hq : ExL G n sc t (setV V y (.d (.list ds))) Q) : ExL G n sc t V Q :=
  fun en A E s Z al ek rm st => by
    obtain ⟨o, z, st', r⟩ := st.frzV hv
    have g : Go en V Z al s (setV V y (.d (.list ds))) (zput Z (al y) o) s := ⟨z, fun b o' e => (zput_new e).elim .inl fun e => .inr (.inl ⟨y, ds, hv, e⟩), .refl .., subOwn_setD, .refl _⟩
    exact hq.useS ek rm st' g.toS

-- loops
/-- a for loop with a state -/
theorem ex_forJ {σ : Type} {target iter : Expr} {body : List Stmt} {p : Pos} {Q : Fl → VM → Prop} (Vf : σ → VM) (I : List D → Nat → σ → Prop) (ht : targetOk sc target)
    (hq : ItQ G n sc target iter V (fun items V₁ => ∃ st₀, Sub (Vf st₀) V₁ ∧ I items 0 st₀ ∧
      (∀ i d st, items[i]? = some d → I items i st → ∃ V', bindT target d (Vf st) = some V' ∧ ExL G n sc body V' (fun fl V'' => match fl with
        | .next => ∃ st', Sub (Vf st') V'' ∧ I items (i + 1) st'
        | .cont => ∃ st', Sub (Vf st') V'' ∧ I items (i + 1) st'
        | .brk => Q .next V''
        | .ret r => Q (.ret r) V'')) ∧
      ∀ st, I items items.length st → Q .next (Vf st)))
    (hs : ∀ en x, foldedSetIterable iter en x = pure x := by intros; rfl) : ExS G n sc (.For target iter body [] p) V Q := by
  refine ExS.post (P := fun fl V' => ∃ V'', Sub V'' V' ∧ Q fl V'') (ex_for ht (ItQ.post hq fun items V₁ hh => ?_) hs) fun r V' h => h
  obtain ⟨st₀, a0, i0, step, fin⟩ := hh
  refine ⟨fun i Vi => ∃ st, Sub (Vf st) Vi ∧ I items i st, ⟨st₀, a0, i0⟩, fun i Vi d hd hh => ?_, fun Vn hh => by obtain ⟨st, a, hi⟩ := hh; exact ⟨Vf st, a, fin st hi⟩⟩
  obtain ⟨st, a, hi⟩ := hh
  obtain ⟨V₁, hb, hx⟩ := step i d st hd hi
  obtain ⟨V₂, hb', a'⟩ := bindT_sub a hb
  refine ⟨V₂, hb', ExL.sub (ExL.post hx fun fl V'' q => ⟨V'', .refl _, ?_⟩) a'⟩
  cases fl with
  | next => obtain ⟨st', a, i⟩ := q; exact ⟨st', a, i⟩
  | cont => obtain ⟨st', a, i⟩ := q; exact ⟨st', a, i⟩
  | brk => exact ⟨V'', .refl _, q⟩
  | ret r => exact ⟨V'', .refl _, q⟩

/-- what a comprehension makes, with a state -/
theorem comp_J {σ : Type} {target elt iter : Expr} {ifs : List Expr} {Q : List D → VM → Prop} (Vf : σ → VM) (I : List D → Nat → List D → σ → Prop)
    (hq : ItQ G n sc target iter V (fun items V₁ => ∃ st₀, Sub (Vf st₀) (capV scope V₁) ∧ I items 0 [] st₀ ∧
      (∀ i d acc st, items[i]? = some d → I items i acc st → ∃ V', bindT target d (Vf st) = some V' ∧
        TestQ G n (relabelS scope sc) ifs V' (fun b V'' => if b = true then EvD G n (relabelS scope sc) elt V'' (fun y V3 => ∃ st', Sub (Vf st') V3 ∧ I items (i + 1) (acc ++ [y]) st') else ∃ st', Sub (Vf st') V'' ∧ I items (i + 1) acc st')) ∧
      ∀ acc st, I items items.length acc st → (∀ x v, V₁.lookup x = some v → scope.names.lookup x = some .free → ∃ v', (Vf st).lookup x = some v') ∧ ∃ V', Sub V' (backV scope V₁ (Vf st)) ∧ Q acc V')) :
    CompQ G n sc scope target elt iter ifs V (fun acc V' => ∃ V'', Sub V'' V' ∧ Q acc V'') := by
  refine ItQ.post hq fun items V₁ hh => ?_
  obtain ⟨st₀, a0, i0, step, fin⟩ := hh
  refine ⟨fun i acc Vi => ∃ st, Sub (Vf st) Vi ∧ I items i acc st, ⟨st₀, a0, i0⟩, fun i acc Vi d hd hh => ?_, fun acc Vn hh => ?_⟩
  · obtain ⟨st, a, hi⟩ := hh
    obtain ⟨V₃, hb, hx⟩ := step i d acc st hd hi
    obtain ⟨V₂, hb', a'⟩ := bindT_sub a hb
    refine ⟨V₂, hb', TestQ.sub hx a' fun b V₁ V₂ k q => ?_⟩
    cases b with
    | true =>
      simp only [if_true] at q ⊢
      exact EvD.sub q k
    | false =>
      simp only [Bool.false_eq_true, if_false] at q ⊢
      obtain ⟨st', a, i⟩ := q
      exact ⟨st', a.trans k, i⟩
  · obtain ⟨st, a, hi⟩ := hh
    obtain ⟨h1, V', h2, h3⟩ := fin acc st hi
    have hcap : ∀ x v, V₁.lookup x = some v → scope.names.lookup x = some .free → ∃ v', Vn.lookup x = some v' := fun x v e hf => let ⟨v', e'⟩ := h1 x v e hf; ⟨v', a x v' e'⟩
    refine ⟨hcap, V', h2.trans fun x v e => ?_, h3⟩
    rw [lookup_backV] at e ⊢
    cases e1 : V₁.lookup x with
    | none => rw [e1] at e; cases e
    | some u =>
      rw [e1] at e
      simp only [Option.map_some] at e ⊢
      split
      · rename_i hf
        rw [if_pos hf] at e
        obtain ⟨v', e2⟩ := h1 x u e1 (beq_iff_eq.mp hf)
        rw [e2] at e
        rw [a x v' e2]
        exact e
      · rename_i hf
        rw [if_neg hf] at e
        exact e
theorem ev_compM {elt target iter : Expr} {ifs : List Expr} {pos : Pos} {Q : R → VM → Prop} (cok : compOk scope sc = true) (ht : targetOk (relabelS scope sc) target) (htf : freeT scope target = true)
    (hq : CompQ G n sc scope target elt iter ifs V (fun acc V' => ∃ V'', Sub V'' V' ∧ Q (.new acc) V'')) (hs : ∀ en x, foldedSetIterable iter en x = pure x := by intros; rfl) :
    EvQ G n sc (.ListComp elt [⟨target, iter, ifs, 0⟩] scope pos) V Q :=
  EvQ.post (P := fun r V' => ∃ V'', Sub V'' V' ∧ Q r V'') (ev_comp cok ht htf hq hs) fun r V' h => h
theorem ex_assign_compM {y : Str} {py p : Pos} {elt target iter : Expr} {ifs : List Expr} {pos : Pos} {Q : Fl → VM → Prop} (hy : isStore sc y) (cok : compOk scope sc = true) (ht : targetOk (relabelS scope sc) target) (htf : freeT scope target = true)
    (hq : CompQ G n sc scope target elt iter ifs V (fun acc V' => ∃ V'', Sub V'' V' ∧ Q .next (setV V'' y (.own acc)))) (hs : ∀ en x, foldedSetIterable iter en x = pure x := by intros; rfl) :
    ExS G n sc (.Assign [.Name y py] (.ListComp elt [⟨target, iter, ifs, 0⟩] scope pos) p) V Q :=
  ExS.post (P := fun fl V' => ∃ V'', Sub V'' V' ∧ Q fl V'') (ex_assign_comp (Q := fun fl V' => ∃ V'', Sub V'' V' ∧ Q fl V'') hy cok ht htf (ItQ.post hq fun items V₁ hh => by
    obtain ⟨K, k0, step, fin⟩ := hh
    refine ⟨K, k0, step, fun acc Vn hk => ?_⟩
    obtain ⟨h1, V'', h2, h3⟩ := fin acc Vn hk
    exact ⟨h1, _, h2.set y _, h3⟩) hs) fun r V' h => h
end
end Mine
end

section
open PySem PySem.W PyProof.Rows PySem.Calls
namespace Mine

abbrev sN (x : String) : Str := Str.ofString x
theorem bb_len : bootBuiltins (sN "len") = some (.builtin "len") := by rfl
theorem bb_abs : bootBuiltins (sN "abs") = some (.builtin "abs") := by rfl
theorem bb_max : bootBuiltins (sN "max") = some (.builtin "max") := by rfl
theorem bb_min : bootBuiltins (sN "min") = some (.builtin "min") := by rfl
theorem bb_sum : bootBuiltins (sN "sum") = some (.builtin "sum") := by rfl
theorem bb_sorted : bootBuiltins (sN "sorted") = some (.builtin "sorted") := by rfl
theorem bb_list : bootBuiltins (sN "list") = some (.type "list") := by rfl
theorem bb_int : bootBuiltins (sN "int") = some (.type "int") := by rfl
theorem bb_range : bootBuiltins (sN "range") = some (.type "range") := by rfl
theorem bb_reversed : bootBuiltins (sN "reversed") = some (.type "reversed") := by rfl
theorem bb_enumerate : bootBuiltins (sN "enumerate") = some (.type "enumerate") := by rfl
theorem bb_zip : bootBuiltins (sN "zip") = some (.type "zip") := by rfl

abbrev LI (ns : List Int) : D := .list (ns.map D.int)
section
variable {G : GC} {n : Nat} {sc scope : Scope} {V : VM} {px pos : Pos} {e e2 e3 target : Expr} {Q : R → VM → Prop} {QI : List D → VM → Prop}

theorem star1 (h : notStar e = true) : ∀ x ∈ [e], notStar x = true := fun x hx => by rw [List.mem_singleton.mp hx]; exact h
theorem ev_len (hg : isGlob sc (sN "len")) (hq : EvQ G n sc e V (fun r V₁ => ∃ xs, (r.frz = .list xs ∧ xs.length ≤ 2 ^ 20) ∧ Q (.d (.int xs.length)) V₁)) (h : notStar e = true := by rfl) : EvQ G n sc (.Call (.Name (sN "len") px) [e] [] pos) V Q :=
  ev_call_blt hg bb_len (.builtin _) ⟨h, EvQ.post hq fun r V' ⟨xs, ⟨e, hl⟩, q⟩ => ⟨V', .refl _, by show CallP G n _ [r.frz] V' Q; rw [e]; exact call_len hl q⟩⟩ (star1 h) (by decide) (by decide)
theorem ev_abs (hg : isGlob sc (sN "abs")) (hq : EvQ G n sc e V (fun r V₁ => ∃ i, r.frz = .int i ∧ Q (.d (.int (if i < 0 then -i else i))) V₁)) (h : notStar e = true := by rfl) : EvQ G n sc (.Call (.Name (sN "abs") px) [e] [] pos) V Q :=
  ev_call_blt hg bb_abs (.builtin _) ⟨h, EvQ.post hq fun r V' ⟨i, e, q⟩ => ⟨V', .refl _, by show CallP G n _ [r.frz] V' Q; rw [e]; exact call_abs q⟩⟩ (star1 h) (by decide) (by decide)
theorem ev_max1 (hg : isGlob sc (sN "max")) (hq : EvQ G n sc e V (fun r V₁ => ∃ ns, (r.frz = LI ns ∧ ns ≠ []) ∧ ∀ m, m ∈ ns → (∀ a ∈ ns, a ≤ m) → Q (.d (.int m)) V₁)) (h : notStar e = true := by rfl) : EvQ G n sc (.Call (.Name (sN "max") px) [e] [] pos) V Q :=
  ev_call_blt hg bb_max (.builtin _) ⟨h, EvQ.post hq fun r V' ⟨i, ⟨e, hl⟩, q⟩ => ⟨V', .refl _, by show CallP G n _ [r.frz] V' Q; rw [e]; exact call_max1 hl q⟩⟩ (star1 h) (by decide) (by decide)
theorem ev_min1 (hg : isGlob sc (sN "min")) (hq : EvQ G n sc e V (fun r V₁ => ∃ ns, (r.frz = LI ns ∧ ns ≠ []) ∧ ∀ m, m ∈ ns → (∀ a ∈ ns, m ≤ a) → Q (.d (.int m)) V₁)) (h : notStar e = true := by rfl) : EvQ G n sc (.Call (.Name (sN "min") px) [e] [] pos) V Q :=
  ev_call_blt hg bb_min (.builtin _) ⟨h, EvQ.post hq fun r V' ⟨i, ⟨e, hl⟩, q⟩ => ⟨V', .refl _, by show CallP G n _ [r.frz] V' Q; rw [e]; exact call_min1 hl q⟩⟩ (star1 h) (by decide) (by decide)
theorem ev_sum (hg : isGlob sc (sN "sum")) (hq : EvQ G n sc e V (fun r V₁ => ∃ ns, (r.frz = LI ns) ∧ Q (.d (.int ns.sum)) V₁)) (h : notStar e = true := by rfl) : EvQ G n sc (.Call (.Name (sN "sum") px) [e] [] pos) V Q :=
  ev_call_blt hg bb_sum (.builtin _) ⟨h, EvQ.post hq fun r V' ⟨i, e, q⟩ => ⟨V', .refl _, by show CallP G n _ [r.frz] V' Q; rw [e]; exact call_sum q⟩⟩ (star1 h) (by decide) (by decide)
theorem ev_sortedI (hg : isGlob sc (sN "sorted")) (hq : EvQ G n sc e V (fun r V₁ => ∃ ns, (r.frz = LI ns ∧ ns.length < 64) ∧ ∀ ms : List Int, ms.Perm ns → ms.Pairwise (· ≤ ·) → Q (.new (ms.map .int)) V₁)) (h : notStar e = true := by rfl) : EvQ G n sc (.Call (.Name (sN "sorted") px) [e] [] pos) V Q :=
  ev_call_blt hg bb_sorted (.builtin _) ⟨h, EvQ.post hq fun r V' ⟨i, ⟨e, hl⟩, q⟩ => ⟨V', .refl _, by show CallP G n _ [r.frz] V' Q; rw [e]; exact call_sortedI hl q⟩⟩ (star1 h) (by decide) (by decide)
theorem ev_sortedT (hg : isGlob sc (sN "sorted")) (hq : EvQ G n sc e V (fun r V₁ => ∃ ps : List (Int × Int), (r.frz = .list (ps.map pairD) ∧ 2 ≤ ps.length ∧ ps.length < 64 ∧ ps.Nodup) ∧ ∀ qs : List (Int × Int), qs.Perm ps → qs.Pairwise (fun a b => lexlt a b = true) → Q (.new (qs.map pairD)) V₁)) (h : notStar e = true := by rfl) : EvQ G n sc (.Call (.Name (sN "sorted") px) [e] [] pos) V Q :=
  ev_call_blt hg bb_sorted (.builtin _) ⟨h, EvQ.post hq fun r V' ⟨i, ⟨e, h2, h64, hnd⟩, q⟩ => ⟨V', .refl _, by show CallP G n _ [r.frz] V' Q; rw [e]; exact call_sortedT h2 h64 hnd q⟩⟩ (star1 h) (by decide) (by decide)
theorem ev_list_of (hg : isGlob sc (sN "list")) (hq : EvQ G n sc e V (fun r V₁ => ∃ xs, (r.frz = .list xs ∧ xs.length ≤ 2 ^ 20) ∧ Q (.new xs) V₁)) (h : notStar e = true := by rfl) : EvQ G n sc (.Call (.Name (sN "list") px) [e] [] pos) V Q :=
  ev_call_blt hg bb_list (.type _) ⟨h, EvQ.post hq fun r V' ⟨xs, ⟨e, hl⟩, q⟩ => ⟨V', .refl _, by show CallP G n _ [r.frz] V' Q; rw [e]; exact call_list hl q⟩⟩ (star1 h) (by decide) (by decide)
theorem ev_int_of (hg : isGlob sc (sN "int")) (hq : EvQ G n sc e V (fun r V₁ => ∃ b, (r.frz = .bool b) ∧ Q (.d (.int (if b = true then 1 else 0))) V₁)) (h : notStar e = true := by rfl) : EvQ G n sc (.Call (.Name (sN "int") px) [e] [] pos) V Q :=
  ev_call_blt hg bb_int (.type _) ⟨h, EvQ.post hq fun r V' ⟨xs, e, q⟩ => ⟨V', .refl _, by show CallP G n _ [r.frz] V' Q; rw [e]; exact call_int_of q⟩⟩ (star1 h) (by decide) (by decide)
theorem star2 (h : notStar e = true) (h2 : notStar e2 = true) : ∀ x ∈ [e, e2], notStar x = true := fun x hx => by
  rcases List.mem_cons.mp hx with rfl | hx
  · exact h
  · exact star1 h2 x hx
theorem star3 (h : notStar e = true) (h2 : notStar e2 = true) (h3 : notStar e3 = true) : ∀ x ∈ [e, e2, e3], notStar x = true := fun x hx => by
  rcases List.mem_cons.mp hx with rfl | hx
  · exact h
  · exact star2 h2 h3 x hx
theorem ev_max2 (hg : isGlob sc (sN "max")) (hq : EvQ G n sc e V (fun r V₁ => ∃ i, r.frz = .int i ∧ EvQ G n sc e2 V₁ (fun r2 V₂ => ∃ j, r2.frz = .int j ∧ Q (.d (.int (max i j))) V₂))) (h : notStar e = true := by rfl) (h2 : notStar e2 = true := by rfl) : EvQ G n sc (.Call (.Name (sN "max") px) [e, e2] [] pos) V Q :=
  ev_call_blt hg bb_max (.builtin _) ⟨h, EvQ.post hq fun r V' ⟨i, e, q⟩ => ⟨V', .refl _, h2, EvQ.post q fun r2 V2 ⟨j, e2, q2⟩ => ⟨V2, .refl _, by show CallP G n _ [r.frz, r2.frz] V2 Q; rw [e, e2]; exact call_max2 q2⟩⟩⟩ (star2 h h2) (by decide) (by decide)

theorem it_range1 (hg : isGlob sc (sN "range")) (hq : EvQ G n sc e V (fun r V₁ => ∃ k : Int, (r.frz = .int k ∧ -(2 ^ 20) ≤ k ∧ k ≤ 2 ^ 20) ∧ QI ((rangeI 0 1 k.toNat).map D.int) V₁)) (h : notStar e = true := by rfl) (ht : isTupT target = false := by rfl) : ItQ G n sc target (.Call (.Name (sN "range") px) [e] [] pos) V QI :=
  it_blt hg bb_range (.type _) ⟨h, EvQ.post hq fun r V' ⟨k, ⟨e, h1⟩, q⟩ => ⟨V', .refl _, by show ItC G n _ _ [r.frz] V' QI; rw [e]; exact itc_range1 h1 q ht⟩⟩ (star1 h) (by decide) (by decide)
theorem it_range3 (hg : isGlob sc (sN "range")) (hq : EvQ G n sc e V (fun r V₁ => ∃ a, r.frz = .int a ∧ EvQ G n sc e2 V₁ (fun r2 V₂ => ∃ b, r2.frz = .int b ∧ EvQ G n sc e3 V₂ (fun r3 V₃ => ∃ c, r3.frz = .int c ∧
    (0 ≤ a ∧ a ≤ 2 ^ 20 ∧ -(2 ^ 20) ≤ b ∧ b ≤ 2 ^ 20 ∧ 0 < c ∧ c ≤ 2 ^ 20) ∧ QI ((rangeI a c (Builtin.Range.rangeSize a b c).toNat).map D.int) V₃)))) (h : notStar e = true := by rfl) (h2 : notStar e2 = true := by rfl) (h3 : notStar e3 = true := by rfl) (ht : isTupT target = false := by rfl) :
    ItQ G n sc target (.Call (.Name (sN "range") px) [e, e2, e3] [] pos) V QI :=
  it_blt hg bb_range (.type _) ⟨h, EvQ.post hq fun r V' ⟨k, e, q⟩ => ⟨V', .refl _, h2, EvQ.post q fun r2 V2 ⟨j, e2, q2⟩ => ⟨V2, .refl _, h3, EvQ.post q2 fun r3 V3 ⟨l, e3, h1, q3⟩ => ⟨V3, .refl _, by show ItC G n _ _ [r.frz, r2.frz, r3.frz] V3 QI; rw [e, e2, e3]; exact itc_range3 h1 q3 ht⟩⟩⟩⟩ (star3 h h2 h3) (by decide) (by decide)
theorem it_rev (hg : isGlob sc (sN "reversed")) (hq : EvQ G n sc e V (fun r V₁ => ∃ xs, (r.frz = .list xs ∧ xs.length ≤ 2 ^ 20) ∧ QI xs.reverse V₁)) (h : notStar e = true := by rfl) (ht : isTupT target = false := by rfl) : ItQ G n sc target (.Call (.Name (sN "reversed") px) [e] [] pos) V QI :=
  it_blt hg bb_reversed (.type _) ⟨h, EvQ.post hq fun r V' ⟨k, ⟨e, h1⟩, q⟩ => ⟨V', .refl _, by show ItC G n _ _ [r.frz] V' QI; rw [e]; exact itc_rev h1 q ht⟩⟩ (star1 h) (by decide) (by decide)
theorem it_enum {es : List Expr} {kk : Nat} {tp : Pos} (hg : isGlob sc (sN "enumerate")) (hq : EvQ G n sc e V (fun r V₁ => ∃ xs, (r.frz = .list xs ∧ xs.length ≤ 2 ^ 20) ∧ QI (enumI xs) V₁)) (h : notStar e = true := by rfl) : ItQ G n sc (.Tuple es kk tp) (.Call (.Name (sN "enumerate") px) [e] [] pos) V QI :=
  it_blt hg bb_enumerate (.type _) ⟨h, EvQ.post hq fun r V' ⟨k, ⟨e, h1⟩, q⟩ => ⟨V', .refl _, by show ItC G n _ _ [r.frz] V' QI; rw [e]; exact itc_enum h1 q⟩⟩ (star1 h) (by decide) (by decide)
theorem it_zip {es : List Expr} {kk : Nat} {tp : Pos} (hg : isGlob sc (sN "zip")) (hq : EvQ G n sc e V (fun r V₁ => ∃ xs, (r.frz = .list xs ∧ xs.length ≤ 2 ^ 20) ∧ EvQ G n sc e2 V₁ (fun r2 V₂ => ∃ ys, r2.frz = .list ys ∧ QI (zipI xs ys) V₂))) (h : notStar e = true := by rfl) (h2 : notStar e2 = true := by rfl) :
    ItQ G n sc (.Tuple es kk tp) (.Call (.Name (sN "zip") px) [e, e2] [] pos) V QI :=
  it_blt hg bb_zip (.type _) ⟨h, EvQ.post hq fun r V' ⟨k, ⟨e, h1⟩, q⟩ => ⟨V', .refl _, h2, EvQ.post q fun r2 V2 ⟨j, e2, q2⟩ => ⟨V2, .refl _, by show ItC G n _ _ [r.frz, r2.frz] V2 QI; rw [e, e2]; exact itc_zip h1 q2⟩⟩⟩ (star2 h h2) (by decide) (by decide)

/-- a call as a statement, that gives None -/
theorem ex_call {x : Str} {p : Pos} {es : List Expr} {Q : Fl → VM → Prop} (hq : EvQ G n sc (.Call (.Name x px) es [] pos) V (fun r V₁ => r = .d .non ∧ Q .next V₁)) : ExS G n sc (.Expr (.Call (.Name x px) es [] pos) p) V Q :=
  fun en A E s Z al ek rm st => wpAny_Expr (wpAny_mono (hq en A E s Z al ek rm st) (fun v s₁ hq1 => by
    obtain ⟨Z₁, V₁, r, g₁, x₁, rr, er, q⟩ := hq1
    subst er
    have : v = .none := rr
    subst this
    exact ⟨Z₁, V₁, al, .next, g₁.toS, x₁, trivial, q⟩) fun _ _ e => e) (by unfold interactive; rw [ek.scope, ek.kind]; rfl) rfl
end
end Mine
end

section
open PySem PySem.W PyProof.Rows PySem.Calls
namespace Mine
section
variable {G : GC} {n : Nat} {sc scope : Scope} {V V₁ : VM} {px pos : Pos} {target : Expr}

theorem mapGet {α β : Type} {f : α → β} {xs : List α} {i : Nat} {d : β} (h : (xs.map f)[i]? = some d) : ∃ a, xs[i]? = some a ∧ d = f a := by
  rw [List.getElem?_map] at h
  obtain ⟨a, h1, h2⟩ := Option.map_eq_some_iff.mp h
  exact ⟨a, h1, h2.symm⟩
/-- each item by itself -/
theorem comp_mapA {α : Type} (toD : α → D) {elt iter : Expr} {ifs : List Expr} {Q : List D → VM → Prop}
    (hq : ItQ G n sc target iter V (fun items V₁ => ∃ (xs : List α) (f : α → Option D), items = xs.map toD ∧
      (∀ a ∈ xs, ∃ V', bindT target (toD a) (capV scope V₁) = some V' ∧
        TestQ G n (relabelS scope sc) ifs V' (fun b V'' => if b = true then EvD G n (relabelS scope sc) elt V'' (fun y V3 => Sub (capV scope V₁) V3 ∧ f a = some y) else Sub (capV scope V₁) V'' ∧ f a = none)) ∧
      Q (xs.filterMap f) V₁)) :
    CompQ G n sc scope target elt iter ifs V (fun acc V' => ∃ V'', Sub V'' V' ∧ Q acc V'') := by
  refine ItQ.post hq fun items V₁ hh => ?_
  obtain ⟨xs, f, exs, step, fin⟩ := hh
  refine ⟨fun i acc Vi => Sub (capV scope V₁) Vi ∧ acc = (xs.take i).filterMap f, ⟨.refl _, by simp⟩, fun i acc Vi d hd hh => ?_, fun acc Vn hh => ?_⟩
  · obtain ⟨a, hi⟩ := hh
    subst exs
    obtain ⟨x, hx, rfl⟩ := mapGet hd
    obtain ⟨V₃, hb, hx'⟩ := step x (List.mem_of_getElem? hx)
    obtain ⟨V₂, hb', a'⟩ := bindT_sub a hb
    have ht : xs.take (i + 1) = xs.take i ++ [x] := by rw [List.take_add_one, hx]; rfl
    have key : ∀ V₂ b V'', (if b = true then EvD G n (relabelS scope sc) elt V'' (fun y V3 => Sub (capV scope V₁) V3 ∧ f x = some y) else Sub (capV scope V₁) V'' ∧ f x = none) → Sub V'' V₂ →
        (if b = true then EvD G n (relabelS scope sc) elt V₂ (fun y V3 => Sub (capV scope V₁) V3 ∧ acc ++ [y] = (xs.take (i + 1)).filterMap f) else Sub (capV scope V₁) V₂ ∧ acc = (xs.take (i + 1)).filterMap f) := fun V₂ b V'' q k => by
      cases b with
      | true =>
        simp only [if_true] at q ⊢
        refine EvD.sub (EvD.post q fun y V3 ⟨h1, h2⟩ => ⟨V3, .refl _, h1, ?_⟩) k
        rw [ht, List.filterMap_append, hi]; simp [h2]
      | false =>
        simp only [Bool.false_eq_true, if_false] at q ⊢
        refine ⟨q.1.trans k, ?_⟩
        rw [ht, List.filterMap_append, hi]; simp [q.2]
    refine ⟨V₂, hb', ?_⟩
    cases ifs with
    | nil => exact key V₂ true V₃ hx' a'
    | cons c r =>
      cases r with
      | nil => exact CoQ.sub (CoQ.post hx' fun b V'' q => ⟨V'', .refl _, key V'' b V'' q (.refl _)⟩) a'
      | cons => exact False.elim hx'
  · obtain ⟨a, hi⟩ := hh
    have hlen : items.length = xs.length := by rw [exs, List.length_map]
    refine ⟨fun x v e hf => ⟨v, a x v ?_⟩, V₁, fun x v e => ?_, ?_⟩
    · rw [lookup_capV, if_pos (beq_iff_eq.mpr hf)]; exact e
    · rw [lookup_backV, e]
      simp only [Option.map_some]
      split
      · rename_i hf
        rw [a x v (by rw [lookup_capV, if_pos hf]; exact e)]; rfl
      · rfl
    · rw [hi, hlen, List.take_length]; exact fin
theorem comp_m {α : Type} (toD : α → D) {elt iter : Expr} {Q : List D → VM → Prop}
    (hq : ItQ G n sc target iter V (fun items V₁ => ∃ (xs : List α) (g : α → D), items = xs.map toD ∧
      (∀ a ∈ xs, ∃ V', bindT target (toD a) (capV scope V₁) = some V' ∧ EvQ G n (relabelS scope sc) elt V' (fun r V3 => Sub (capV scope V₁) V3 ∧ g a = r.frz)) ∧ Q (xs.map g) V₁)) :
    CompQ G n sc scope target elt iter [] V (fun acc V' => ∃ V'', Sub V'' V' ∧ Q acc V'') :=
  comp_mapA toD (ItQ.post hq fun items V₁ hh => by
    obtain ⟨xs, g, exs, step, fin⟩ := hh
    refine ⟨xs, fun a => some (g a), exs, fun a ha => ?_, ?_⟩
    · obtain ⟨V', hb, hx⟩ := step a ha
      refine ⟨V', hb, ?_⟩
      show if true = true then EvD G n (relabelS scope sc) elt V' (fun y V3 => Sub (capV scope V₁) V3 ∧ some (g a) = some y) else (Sub (capV scope V₁) V' ∧ some (g a) = none)
      rw [if_pos rfl]
      exact EvQ.frz (EvQ.post hx fun r V3 hh => ⟨V3, .refl _, hh.1, by rw [hh.2]⟩)
    · have e : xs.filterMap (fun a => some (g a)) = xs.map g := by rw [← List.filterMap_eq_map]; rfl
      rw [e]; exact fin)
theorem comp_f {α : Type} (toD : α → D) {elt iter c : Expr} {Q : List D → VM → Prop}
    (hq : ItQ G n sc target iter V (fun items V₁ => ∃ (xs : List α) (p : α → Bool) (g : α → D), items = xs.map toD ∧
      (∀ a ∈ xs, ∃ V', bindT target (toD a) (capV scope V₁) = some V' ∧ CoQ G n (relabelS scope sc) c V' (fun b V'' => p a = b ∧ Sub (capV scope V₁) V'' ∧ (b = true → EvQ G n (relabelS scope sc) elt V'' (fun r V3 => Sub (capV scope V₁) V3 ∧ g a = r.frz)))) ∧
      Q ((xs.filter p).map g) V₁)) :
    CompQ G n sc scope target elt iter [c] V (fun acc V' => ∃ V'', Sub V'' V' ∧ Q acc V'') :=
  comp_mapA toD (ItQ.post hq fun items V₁ hh => by
    obtain ⟨xs, p, g, exs, step, fin⟩ := hh
    refine ⟨xs, fun a => if p a = true then some (g a) else none, exs, fun a ha => ?_, ?_⟩
    · obtain ⟨V', hb, hx⟩ := step a ha
      refine ⟨V', hb, ?_⟩
      refine CoQ.post hx fun b V'' hh => ⟨V'', .refl _, ?_⟩
      obtain ⟨h1, h2, h3⟩ := hh
      cases b with
      | true => rw [if_pos rfl]; exact EvQ.frz (EvQ.post (h3 rfl) fun r V3 h4 => ⟨V3, .refl _, h4.1, by show (if p a = true then some (g a) else none) = _; rw [if_pos h1, h4.2]⟩)
      | false => rw [if_neg (by simp)]; exact ⟨h2, by show (if p a = true then some (g a) else none) = _; rw [h1]; simp⟩
    · have e : xs.filterMap (fun a => if p a = true then some (g a) else none) = (xs.filter p).map g := by
        clear fin step exs
        induction xs with
        | nil => rfl
        | cons a r ih =>
          rw [List.filterMap_cons, List.filter_cons]
          by_cases hp : p a = true
          · simp [hp, ih]
          · simp [hp, ih]
      rw [e]; exact fin)
theorem exL_next {t : Stmt} {ts : List Stmt} {Q : Fl → VM → Prop} (hq : ExS G n sc t V (fun fl V₁ => fl = .next ∧ ExL G n sc ts V₁ Q)) : ExL G n sc (t :: ts) V Q :=
  exL_step (P := fun V₁ => ExL G n sc ts V₁ Q) hq fun _ h => h
/-- on with what is known of the names -/
theorem exL_to {t : Stmt} {ts : List Stmt} {Q : Fl → VM → Prop} (Vm : VM) (hq : ExS G n sc t V (fun fl V₁ => fl = .next ∧ Sub Vm V₁)) (k : ExL G n sc ts Vm Q) : ExL G n sc (t :: ts) V Q :=
  exL_step (P := fun V₁ => Sub Vm V₁) hq fun _ h => k.sub h
theorem exL_end {Q : Fl → VM → Prop} (q : Q .next V) : ExL G n sc [] V Q := exL_nil q
theorem exL_ifret {t e : Expr} {p p' : Pos} {ts : List Stmt} {Q : Fl → VM → Prop} (hq : CoQ G n sc t V (fun c V₁ => (c = true → EvQ G n sc e V₁ (fun r V₂ => Q (.ret r) V₂)) ∧ (c = false → ExL G n sc ts V₁ Q))) : ExL G n sc (.If t [.Return (some e) p] [] p' :: ts) V Q :=
  exL_cons (ex_if (CoQ.post hq fun c V₁ ⟨h1, h2⟩ => ⟨V₁, .refl _, by
    cases c with
    | true => rw [if_pos rfl]; exact exL_cons (ex_return (h1 rfl))
    | false => rw [if_neg (by simp)]; exact exL_nil (h2 rfl)⟩))
theorem ex_if2 {t : Expr} {b o : List Stmt} {p : Pos} {Q : Fl → VM → Prop} (hq : CoQ G n sc t V (fun c V₁ => (c = true → ExL G n sc b V₁ Q) ∧ (c = false → ExL G n sc o V₁ Q))) : ExS G n sc (.If t b o p) V Q :=
  ex_if (CoQ.post hq fun c V₁ ⟨h1, h2⟩ => ⟨V₁, .refl _, by
    cases c with
    | true => rw [if_pos rfl]; exact h1 rfl
    | false => rw [if_neg (by simp)]; exact h2 rfl⟩)
theorem FnS.use {m : Nat} {d : DefRec} {ds : List D} {P Q : R → Prop} (h : FnS G m d ds P) (hm : m ≤ n) (k : ∀ r, P r → Q r) : FnS G n d ds Q :=
  fun fa o pm code doc ho hd hcd V en A E s Z al vs rm x rs => wpAny_mono (h fa o pm code doc ho hd hcd V en A E s Z al vs (rm.mono hm) x rs) (fun v s' hq2 => by obtain ⟨Z', V', r, g, x, rr, e, q⟩ := hq2; exact ⟨Z', V', r, g, x, rr, e, k r q⟩) fun _ _ e => e
theorem FnJ.use {m : Nat} {d : DefRec} {js ds : List D} {P Q : R → List D → Prop} (h : FnJ G m d js ds P) (hm : m ≤ n) (k : ∀ r js', P r js' → Q r js') : FnJ G n d js ds Q :=
  fun fa o pm code doc ho hd hcd A E s Z vs a rm hb hf w rs => wpAny_mono (h fa o pm code doc ho hd hcd A E s Z vs a (rm.mono hm) hb hf w rs) (fun v s' hq1 => by obtain ⟨Z', r, js', kp, a, b, c, e, f, g, q⟩ := hq1; exact ⟨Z', r, js', kp, a, b, c, e, f, g, k r js' q⟩) fun _ _ e => e
theorem exL_ifR {t : Expr} {b ts : List Stmt} {p' : Pos} {Q : Fl → VM → Prop} (hq : CoQ G n sc t V (fun c V₁ => (c = true → ExL G n sc b V₁ (fun fl V₂ => ∃ r, fl = .ret r ∧ Q (.ret r) V₂)) ∧ (c = false → ExL G n sc ts V₁ Q))) : ExL G n sc (.If t b [] p' :: ts) V Q :=
  exL_cons (ex_if (CoQ.post hq fun c V₁ ⟨h1, h2⟩ => ⟨V₁, .refl _, by
    cases c with
    | true => rw [if_pos rfl]; exact ExL.post (h1 rfl) fun fl V₂ ⟨r, e, q⟩ => ⟨V₂, .refl _, by subst e; exact q⟩
    | false => rw [if_neg (by simp)]; exact exL_nil (h2 rfl)⟩))
theorem ifT {c : Bool} {A B : Prop} (h : (c = true → A) ∧ (c = false → B)) : if c = true then A else B := by
  cases c with
  | true => rw [if_pos rfl]; exact h.1 rfl
  | false => rw [if_neg (by simp)]; exact h.2 rfl
theorem co_or2 {e f : Expr} {p : Pos} {Q : Bool → VM → Prop} (hq : CoQ G n sc e V (fun b V₁ => (b = true → Q true V₁) ∧ (b = false → CoQ G n sc f V₁ Q))) : CoQ G n sc (.BoolOp .Or [e, f] p) V Q :=
  co_or (CoQ.post hq fun b V₁ h => ⟨V₁, .refl _, ifT h⟩)
theorem co_and2 {e f : Expr} {p : Pos} {Q : Bool → VM → Prop} (hq : CoQ G n sc e V (fun b V₁ => (b = true → CoQ G n sc f V₁ Q) ∧ (b = false → Q false V₁))) : CoQ G n sc (.BoolOp .And [e, f] p) V Q :=
  co_and (CoQ.post hq fun b V₁ h => ⟨V₁, .refl _, ifT h⟩)
theorem ev_ite2 {t e f : Expr} {p : Pos} {Q : R → VM → Prop} (hq : CoQ G n sc t V (fun b V₁ => (b = true → EvQ G n sc e V₁ Q) ∧ (b = false → EvQ G n sc f V₁ Q))) : EvQ G n sc (.IfExp t e f p) V Q :=
  ev_ite (CoQ.post hq fun b V₁ h => ⟨V₁, .refl _, ifT h⟩)
theorem ev_or2 {e f : Expr} {p : Pos} {Q : R → VM → Prop} (hq : EvQ G n sc e V (fun r V₁ => ∃ b, r = .d (.bool b) ∧ (b = true → Q (.d (.bool true)) V₁) ∧ (b = false → EvQ G n sc f V₁ Q))) : EvQ G n sc (.BoolOp .Or [e, f] p) V Q :=
  ev_or (EvQ.post hq fun r V₁ ⟨b, e, h⟩ => ⟨V₁, .refl _, b, e, ifT h⟩)
theorem ev_and2 {e f : Expr} {p : Pos} {Q : R → VM → Prop} (hq : EvQ G n sc e V (fun r V₁ => ∃ b, r = .d (.bool b) ∧ (b = true → EvQ G n sc f V₁ Q) ∧ (b = false → Q (.d (.bool false)) V₁))) : EvQ G n sc (.BoolOp .And [e, f] p) V Q :=
  ev_and (EvQ.post hq fun r V₁ ⟨b, e, h⟩ => ⟨V₁, .refl _, b, e, ifT h⟩)
theorem br_add {x y : Int} {Q : R → Prop} (h : Q (.d (.int (x + y)))) : BinRes .Add (.int x) (.int y) Q := h
theorem br_sub {x y : Int} {Q : R → Prop} (h : Q (.d (.int (x - y)))) : BinRes .Sub (.int x) (.int y) Q := h
theorem cr_lt {x y : Int} {Q : Bool → Prop} (h : Q (decide (x < y))) : CmpRes .Lt (.int x) (.int y) Q := h
theorem cr_le {x y : Int} {Q : Bool → Prop} (h : Q (decide (x ≤ y))) : CmpRes .LtE (.int x) (.int y) Q := h
theorem cr_gt {x y : Int} {Q : Bool → Prop} (h : Q (decide (y < x))) : CmpRes .Gt (.int x) (.int y) Q := h
theorem cr_ge {x y : Int} {Q : Bool → Prop} (h : Q (decide (y ≤ x))) : CmpRes .GtE (.int x) (.int y) Q := h
theorem cr_eq {x y : Int} {Q : Bool → Prop} (h : Q (x == y)) : CmpRes .Eq (.int x) (.int y) Q := h
theorem cr_ne {x y : Int} {Q : Bool → Prop} (h : Q (x != y)) : CmpRes .NotEq (.int x) (.int y) Q := h
theorem len1 {α : Type} {vs : List α} (h : vs.length = 1) : ∃ a, vs = [a] := by
  cases vs with
  | nil => cases h
  | cons a r => exact ⟨a, by rw [List.length_eq_zero_iff.mp (Nat.succ.inj h)]⟩
theorem len2 {α : Type} {vs : List α} (h : vs.length = 2) : ∃ a b, vs = [a, b] := by
  cases vs with
  | nil => cases h
  | cons a r => obtain ⟨b, e⟩ := len1 (Nat.succ.inj h); exact ⟨a, b, by rw [e]⟩
theorem len3 {α : Type} {vs : List α} (h : vs.length = 3) : ∃ a b c, vs = [a, b, c] := by
  cases vs with
  | nil => cases h
  | cons a r => obtain ⟨b, c, e⟩ := len2 (Nat.succ.inj h); exact ⟨a, b, c, by rw [e]⟩
theorem len5 {α : Type} {vs : List α} (h : vs.length = 5) : ∃ a b c d e, vs = [a, b, c, d, e] := by
  cases vs with
  | nil => cases h
  | cons a r =>
    cases r with
    | nil => cases h
    | cons b r => obtain ⟨c, d, e, q⟩ := len3 (Nat.succ.inj (Nat.succ.inj h)); exact ⟨a, b, c, d, e, by rw [q]⟩
end
end Mine
end

section
open PySem PySem.W PyProof.Rows PySem.Calls
namespace Mine
/-- the text without its three plain assignments -/
def pickB (p : Program) : Program := { p with main := { p.main with body := (p.main.body.drop 1).take 2 ++ ((p.main.body.drop 4).take 7 ++ p.main.body.drop 12) } }
noncomputable def PV : Program := pickB PySem.Challenge.pw_tk0115_01
theorem x0 : ∃ d, (recsOf PV)[0]? = some d ∧ d.name = Str.ofString "used_symbols" := ⟨_, rfl, rfl⟩
noncomputable def r0 : DefRec := x0.choose
theorem r0_at : (recsOf PV)[0]? = some r0 := x0.choose_spec.1
theorem r0_nm : r0.name = Str.ofString "used_symbols" := x0.choose_spec.2
theorem x1 : ∃ d, (recsOf PV)[1]? = some d ∧ d.name = Str.ofString "total_bits" := ⟨_, rfl, rfl⟩
noncomputable def r1 : DefRec := x1.choose
theorem r1_at : (recsOf PV)[1]? = some r1 := x1.choose_spec.1
theorem r1_nm : r1.name = Str.ofString "total_bits" := x1.choose_spec.2
theorem x2 : ∃ d, (recsOf PV)[2]? = some d ∧ d.name = Str.ofString "placed" := ⟨_, rfl, rfl⟩
noncomputable def r2 : DefRec := x2.choose
theorem r2_at : (recsOf PV)[2]? = some r2 := x2.choose_spec.1
theorem r2_nm : r2.name = Str.ofString "placed" := x2.choose_spec.2
theorem x3 : ∃ d, (recsOf PV)[3]? = some d ∧ d.name = Str.ofString "check_room" := ⟨_, rfl, rfl⟩
noncomputable def r3 : DefRec := x3.choose
theorem r3_at : (recsOf PV)[3]? = some r3 := x3.choose_spec.1
theorem r3_nm : r3.name = Str.ofString "check_room" := x3.choose_spec.2
theorem x4 : ∃ d, (recsOf PV)[4]? = some d ∧ d.name = Str.ofString "merged" := ⟨_, rfl, rfl⟩
noncomputable def r4 : DefRec := x4.choose
theorem r4_at : (recsOf PV)[4]? = some r4 := x4.choose_spec.1
theorem r4_nm : r4.name = Str.ofString "merged" := x4.choose_spec.2
theorem x5 : ∃ d, (recsOf PV)[5]? = some d ∧ d.name = Str.ofString "package_depths" := ⟨_, rfl, rfl⟩
noncomputable def r5 : DefRec := x5.choose
theorem r5_at : (recsOf PV)[5]? = some r5 := x5.choose_spec.1
theorem r5_nm : r5.name = Str.ofString "package_depths" := x5.choose_spec.2
theorem x6 : ∃ d, (recsOf PV)[6]? = some d ∧ d.name = Str.ofString "least_lengths" := ⟨_, rfl, rfl⟩
noncomputable def r6 : DefRec := x6.choose
theorem r6_at : (recsOf PV)[6]? = some r6 := x6.choose_spec.1
theorem r6_nm : r6.name = Str.ofString "least_lengths" := x6.choose_spec.2
theorem x7 : ∃ d, (recsOf PV)[7]? = some d ∧ d.name = Str.ofString "_law_jar" := ⟨_, rfl, rfl⟩
noncomputable def r7 : DefRec := x7.choose
theorem r7_at : (recsOf PV)[7]? = some r7 := x7.choose_spec.1
theorem r7_nm : r7.name = Str.ofString "_law_jar" := x7.choose_spec.2
theorem x8 : ∃ d, (recsOf PV)[8]? = some d ∧ d.name = Str.ofString "_law_take" := ⟨_, rfl, rfl⟩
noncomputable def r8 : DefRec := x8.choose
theorem r8_at : (recsOf PV)[8]? = some r8 := x8.choose_spec.1
theorem r8_nm : r8.name = Str.ofString "_law_take" := x8.choose_spec.2
theorem x9 : ∃ d, (recsOf PV)[9]? = some d ∧ d.name = Str.ofString "_law_tree" := ⟨_, rfl, rfl⟩
noncomputable def r9 : DefRec := x9.choose
theorem r9_at : (recsOf PV)[9]? = some r9 := x9.choose_spec.1
theorem r9_nm : r9.name = Str.ofString "_law_tree" := x9.choose_spec.2
theorem x10 : ∃ d, (recsOf PV)[10]? = some d ∧ d.name = Str.ofString "_law_counts" := ⟨_, rfl, rfl⟩
noncomputable def r10 : DefRec := x10.choose
theorem r10_at : (recsOf PV)[10]? = some r10 := x10.choose_spec.1
theorem r10_nm : r10.name = Str.ofString "_law_counts" := x10.choose_spec.2
theorem x11 : ∃ d, (recsOf PV)[11]? = some d ∧ d.name = Str.ofString "_law_parted" := ⟨_, rfl, rfl⟩
noncomputable def r11 : DefRec := x11.choose
theorem r11_at : (recsOf PV)[11]? = some r11 := x11.choose_spec.1
theorem r11_nm : r11.name = Str.ofString "_law_parted" := x11.choose_spec.2
theorem x12 : ∃ d, (recsOf PV)[12]? = some d ∧ d.name = Str.ofString "_law_pair" := ⟨_, rfl, rfl⟩
noncomputable def r12 : DefRec := x12.choose
theorem r12_at : (recsOf PV)[12]? = some r12 := x12.choose_spec.1
theorem r12_nm : r12.name = Str.ofString "_law_pair" := x12.choose_spec.2
theorem x13 : ∃ d, (recsOf PV)[13]? = some d ∧ d.name = Str.ofString "_law_even" := ⟨_, rfl, rfl⟩
noncomputable def r13 : DefRec := x13.choose
theorem r13_at : (recsOf PV)[13]? = some r13 := x13.choose_spec.1
theorem r13_nm : r13.name = Str.ofString "_law_even" := x13.choose_spec.2
theorem x14 : ∃ d, (recsOf PV)[14]? = some d ∧ d.name = Str.ofString "_law_total" := ⟨_, rfl, rfl⟩
noncomputable def r14 : DefRec := x14.choose
theorem r14_at : (recsOf PV)[14]? = some r14 := x14.choose_spec.1
theorem r14_nm : r14.name = Str.ofString "_law_total" := x14.choose_spec.2
theorem x15 : ∃ d, (recsOf PV)[15]? = some d ∧ d.name = Str.ofString "_law_halved" := ⟨_, rfl, rfl⟩
noncomputable def r15 : DefRec := x15.choose
theorem r15_at : (recsOf PV)[15]? = some r15 := x15.choose_spec.1
theorem r15_nm : r15.name = Str.ofString "_law_halved" := x15.choose_spec.2
theorem x16 : ∃ d, (recsOf PV)[16]? = some d ∧ d.name = Str.ofString "_law_saved" := ⟨_, rfl, rfl⟩
noncomputable def r16 : DefRec := x16.choose
theorem r16_at : (recsOf PV)[16]? = some r16 := x16.choose_spec.1
theorem r16_nm : r16.name = Str.ofString "_law_saved" := x16.choose_spec.2
theorem x17 : ∃ d, (recsOf PV)[17]? = some d ∧ d.name = Str.ofString "_law_rounds_right" := ⟨_, rfl, rfl⟩
noncomputable def r17 : DefRec := x17.choose
theorem r17_at : (recsOf PV)[17]? = some r17 := x17.choose_spec.1
theorem r17_nm : r17.name = Str.ofString "_law_rounds_right" := x17.choose_spec.2
theorem memR {G : GC} (hG : G.recs = recsOf PV) {k : Nat} {d : DefRec} (h : (recsOf PV)[k]? = some d) : d ∈ G.recs := hG ▸ List.mem_of_getElem? h
end Mine
end

section
open PySem PySem.W PyProof.Rows PySem.Calls
namespace Mine
local macro_rules | `(tactic| walk_at "E") => `(tactic| first
  | ((with_reducible show BinRes .Add _ _ _); refine br_add ?_)
  | ((with_reducible show BinRes .Sub _ _ _); refine br_sub ?_)
  | ((with_reducible show CmpRes .Lt _ _ _); refine cr_lt ?_)
  | ((with_reducible show CmpRes .LtE _ _ _); refine cr_le ?_)
  | ((with_reducible show CmpRes .Gt _ _ _); refine cr_gt ?_)
  | ((with_reducible show CmpRes .GtE _ _ _); refine cr_ge ?_)
  | ((with_reducible show CmpRes .Eq _ _ _); refine cr_eq ?_)
  | ((with_reducible show CmpRes .NotEq _ _ _); refine cr_ne ?_)
  | (with_reducible refine ev_int ?_)
  | (with_reducible refine ev_bool ?_)
  | ((with_reducible show EvQ _ _ _ (.Name _ _) _ _); (first | refine ev_name (by exact rfl) ?_ | refine ev_name_frz (by exact rfl) ?_))
  | ((with_reducible show EvQ _ _ _ (.BinOp (.List [_] _) .Mult _ _) _ _); (refine ev_rep ?_))
  | (with_reducible refine ev_bin ?_)
  | (with_reducible refine ev_cmp ?_)
  | (with_reducible refine ev_ite2 ?_)
  | (with_reducible refine ev_or2 ?_)
  | (with_reducible refine ev_and2 ?_)
  | (with_reducible refine ev_not ?_)
  | (with_reducible refine ev_neg ?_)
  | ((with_reducible show EvQ _ _ _ (.Subscript _ (.Slice none _ none _) _) _ _); (refine ev_slice_upto ?_))
  | ((with_reducible show EvQ _ _ _ (.Subscript _ (.Slice _ none none _) _) _ _); (refine ev_slice_from ?_))
  | ((with_reducible show EvQ _ _ _ (.Subscript (.Name _ _) _ _) _ _); (first | refine ev_sub_own (by exact rfl) ?_ | refine ev_sub ?_))
  | ((with_reducible show EvQ _ _ _ (.Subscript _ _ _) _ _); (refine ev_sub ?_))
  | ((with_reducible show EvQ _ _ _ (.Call (.Name (Str.ofString "len") _) [_] [] _) _ _); (refine ev_len (by exact rfl) ?_))
  | ((with_reducible show EvQ _ _ _ (.Call (.Name (Str.ofString "abs") _) [_] [] _) _ _); (refine ev_abs (by exact rfl) ?_))
  | ((with_reducible show EvQ _ _ _ (.Call (.Name (Str.ofString "sum") _) [_] [] _) _ _); (refine ev_sum (by exact rfl) ?_))
  | ((with_reducible show EvQ _ _ _ (.Call (.Name (Str.ofString "min") _) [_] [] _) _ _); (refine ev_min1 (by exact rfl) ?_))
  | ((with_reducible show EvQ _ _ _ (.Call (.Name (Str.ofString "max") _) [_] [] _) _ _); (refine ev_max1 (by exact rfl) ?_))
  | ((with_reducible show EvQ _ _ _ (.Call (.Name (Str.ofString "max") _) [_, _] [] _) _ _); (refine ev_max2 (by exact rfl) ?_))
  | ((with_reducible show EvQ _ _ _ (.Call (.Name (Str.ofString "list") _) [_] [] _) _ _); (refine ev_list_of (by exact rfl) ?_))
  | ((with_reducible show EvQ _ _ _ (.Call (.Name (Str.ofString "int") _) [_] [] _) _ _); (refine ev_int_of (by exact rfl) ?_))
  | (with_reducible refine co_cmp ?_)
  | (with_reducible refine co_chain ?_)
  | (with_reducible refine co_not ?_)
  | (with_reducible refine co_and2 ?_)
  | (with_reducible refine co_or2 ?_))
local macro_rules | `(tactic| walk_at "S") => `(tactic| exact SubL.one (by exact rfl))
local macro_rules | `(tactic| walk_at "st") => `(tactic| exact ⟨by first | exact .inl rfl | exact .inr rfl, .inl (by decide)⟩)
local macro_rules | `(tactic| walk_at "sw") => `(tactic| exact (fun en h => by cases en; dsimp only at h; subst h; rfl))
local macro_rules | `(tactic| walk_at "sts") => `(tactic| exact (fun x hx => by
  repeat (first | (rcases List.mem_cons.mp hx with h | h; (subst h; walk_at "st"); (clear hx; rename _ => hx)) | cases hx)))
local macro_rules | `(tactic| walk_at "EE") => `(tactic| repeat walk_at "E")
local macro_rules | `(tactic| walk_at "b1") => `(tactic| exact (fun pm code doc vs h => by obtain ⟨a, e⟩ := len1 h; subst e; rfl))
local macro_rules | `(tactic| walk_at "b2") => `(tactic| exact (fun pm code doc vs h => by obtain ⟨a, b, e⟩ := len2 h; subst e; rfl))
local macro_rules | `(tactic| walk_at "b3") => `(tactic| exact (fun pm code doc vs h => by obtain ⟨a, b, c, e⟩ := len3 h; subst e; rfl))
local macro_rules | `(tactic| walk_at "b5") => `(tactic| exact (fun pm code doc vs h => by obtain ⟨a, b, c, d, e, q⟩ := len5 h; subst q; rfl))
theorem range_mem {c : Int} {m : Nat} {k : Int} (h : k ∈ rangeI 0 1 m) : 0 ≤ k ∧ k < m := by
  simp only [rangeI, List.mem_map, List.mem_range] at h
  obtain ⟨i, hi, rfl⟩ := h
  lia
def evenI (many : Int) : Int := ((rangeI 0 1 4).filter fun k => decide (2 ^ k.toNat < many)).length
theorem w_even {G : GC} (hG : G.recs = recsOf PV) {many : Int} : FnS G 1 r13 [.int many] (fun r => r = .d (.int (evenI many))) := by
  have hd := r13_at
  generalize r13 = d at hd ⊢
  injection hd with hd
  subst hd
  refine fnS (by walk_at "b1") rfl ?_
  show ExL G 0 _ _ [(sN "many", Val.d (.int many))] _
  dsimp only
  refine exL_cons (ex_return ?_)
  walk_at "EE"
  refine ev_compM rfl (by walk_at "st") rfl (comp_f D.int (it_range1 (by exact rfl) ?_))
  walk_at "EE"
  refine ⟨4, ⟨rfl, by decide, by decide⟩, _, fun k => decide (2 ^ k.toNat < many), D.int, rfl, fun k hk => ⟨_, rfl, ?_⟩, ?_⟩
  · have hk' := range_mem (c := 1) hk
    walk_at "EE"
    refine ⟨⟨hk'.1, by lia, by decide, by decide⟩, ?_⟩
    walk_at "EE"
    refine ⟨rfl, by walk_at "S", fun _ => ?_⟩
    walk_at "EE"
    exact ⟨by walk_at "S", rfl⟩
  · refine ⟨_, ⟨rfl, ?_⟩, _, .inl rfl, ?_⟩
    · exact Nat.le_trans (by rw [List.length_map]; exact List.length_filter_le _ _) (by decide)
    · rw [List.length_map]; rfl

theorem cutTo_map {ns : List Int} {k : Int} (h : 0 ≤ k) : cutTo (ns.map D.int) k = (ns.take k.toNat).map D.int := by
  unfold cutTo
  rw [if_pos h, List.map_take]
theorem w_jar {G : GC} (hG : G.recs = recsOf PV) {ns : List Int} (hl : ns.length ≤ 63) : FnS G 1 r7 [LI ns] (fun r => ∃ a b : Int, r = .new [.int a, .int b]) := by
  have hd := r7_at
  generalize r7 = d at hd ⊢
  injection hd with hd
  subst hd
  refine fnS (by walk_at "b1") rfl ?_
  show ExL G 0 _ _ [(sN "script", Val.d (LI ns))] _
  dsimp only
  refine exL_next (ex_tup_plain (xs := [sN "digits", sN "mixed"]) rfl (by walk_at "sts") (by walk_at "sw") ?_)
  refine ⟨rfl, ?_⟩
  walk_at "EE"
  refine ⟨rfl, ?_⟩
  walk_at "EE"
  refine ⟨⟨rfl, by decide⟩, rfl, ?_⟩
  refine exL_next (ex_forJ (fun (st : Int × Int) => [(sN "digits", Val.d (.int st.1)), (sN "mixed", Val.d (.int st.2))]) (fun items _ _ => items = (ns.take 24).map D.int) (by walk_at "st") (it_list ?_))
  walk_at "EE"
  refine ⟨_, _, ⟨rfl, rfl, ?_⟩, _, ⟨rfl, ?_⟩, (0, 1), by walk_at "S", cutTo_map (by decide), fun i d st hd hI => ?_, fun st _ => ⟨rfl, ?_⟩⟩
  · rw [List.length_map]; lia
  · show (cutTo (ns.map D.int) 24).length ≤ _
    rw [cutTo_map (by decide), List.length_map, List.length_take]; lia
  · rw [hI] at hd
    obtain ⟨a, ha, rfl⟩ := mapGet hd
    refine ⟨_, rfl, ?_⟩
    refine exL_next (ex_if2 ?_)
    walk_at "EE"
    refine ⟨_, rfl, ?_⟩
    walk_at "EE"
    refine ⟨⟨by decide, by decide, by decide, by decide⟩, fun hc => ?_, fun hc => ?_⟩
    · refine exL_next (ex_assign (by walk_at "st") rfl ?_)
      walk_at "EE"
      refine ⟨_, rfl, ?_⟩
      walk_at "EE"
      refine ⟨⟨by decide, by decide, by decide, by decide⟩, rfl, ?_⟩
      exact exL_end ⟨rfl, exL_end ⟨(st.1 + (if a < 0 then -a else a) - 10 ^ 18, st.2), by walk_at "S", hI⟩⟩
    · refine exL_next (ex_assign (by walk_at "st") rfl ?_)
      walk_at "EE"
      refine ⟨.inr (by decide), ?_⟩
      walk_at "EE"
      refine ⟨by decide, rfl, ?_⟩
      exact exL_end ⟨rfl, exL_end ⟨(st.1, 1 + (st.2 * 1009 + a).fmod 2147483629), by walk_at "S", hI⟩⟩
  · refine exL_cons (ex_return ?_)
    refine ev_list ?_
    refine ⟨rfl, ?_⟩
    walk_at "EE"
    refine ⟨rfl, ?_⟩
    walk_at "EE"
    exact ⟨Nat.le_of_ble_eq_true rfl, _, .inl rfl, _, _, rfl⟩
def JarOk (js : List D) : Prop := ∃ a b : Int, js = [.int a, .int b]
theorem w_take {G : GC} (hG : G.recs = recsOf PV) {js : List D} {many : Int} (hj : JarOk js) (h0 : 0 < many) (h1 : many < 2 ^ 30) : FnJ G 1 r8 js [.int many] (fun r js' => ∃ d : Int, r = .d (.int d) ∧ 0 ≤ d ∧ d < many ∧ JarOk js') := by
  have hd := r8_at
  generalize r8 = d at hd ⊢
  injection hd with hd
  subst hd
  obtain ⟨a, b, rfl⟩ := hj
  refine fnJ (ns := [sN "many"]) (by walk_at "b2") rfl (by decide) (by rintro (h | h); exact h rfl; cases h) rfl ?_
  show ExL G 0 _ _ [(jarN, Val.own [.int a, .int b]), (sN "many", Val.d (.int many))] _
  dsimp only
  refine exL_ifR ?_
  walk_at "EE"
  refine ⟨_, _, .int a, ⟨rfl, rfl, by decide, by decide, rfl⟩, ?_⟩
  walk_at "EE"
  refine ⟨fun hc => ?_, fun hc => ?_⟩
  · refine exL_next (ex_assign (by walk_at "st") rfl ?_)
    walk_at "EE"
    refine ⟨_, _, .int a, ⟨rfl, rfl, by decide, by decide, rfl⟩, ?_⟩
    walk_at "EE"
    refine ⟨by lia, rfl, ?_⟩
    refine exL_next (ex_setitem ?_)
    walk_at "EE"
    refine ⟨_, _, .int a, ⟨rfl, rfl, by decide, by decide, rfl⟩, ?_⟩
    walk_at "EE"
    refine ⟨⟨h0, h1⟩, ⟨_, rfl⟩, ?_⟩
    walk_at "EE"
    refine ⟨_, _, ⟨rfl, rfl, by decide, by decide, Nat.le_of_ble_eq_true rfl⟩, rfl, ?_⟩
    refine exL_cons (ex_return ?_)
    walk_at "EE"
    exact ⟨_, rfl, _, .inl rfl, _, rfl, _, rfl, Int.fmod_nonneg_of_pos _ h0, Int.fmod_lt_of_pos _ h0, _, _, rfl⟩
  · refine exL_next (ex_setitem ?_)
    walk_at "EE"
    refine ⟨_, _, .int b, ⟨rfl, rfl, by decide, by decide, rfl⟩, ?_⟩
    walk_at "EE"
    refine ⟨.inr (by decide), ?_⟩
    walk_at "EE"
    refine ⟨by decide, ⟨_, rfl⟩, ?_⟩
    walk_at "EE"
    refine ⟨_, _, ⟨rfl, rfl, by decide, by decide, Nat.le_of_ble_eq_true rfl⟩, rfl, ?_⟩
    refine exL_cons (ex_return ?_)
    walk_at "EE"
    refine ⟨_, _, _, ⟨rfl, rfl, by decide, by decide, rfl⟩, ?_⟩
    walk_at "EE"
    refine ⟨by decide, ?_⟩
    walk_at "EE"
    exact ⟨by lia, _, .inl rfl, _, rfl, _, rfl, Int.fmod_nonneg_of_pos _ h0, Int.fmod_lt_of_pos _ h0, _, _, rfl⟩
def enT (p : Int × Nat) : D := .tup [.int p.2, .int p.1]
theorem enumI_ints {cs : List Int} : enumI (cs.map D.int) = cs.zipIdx.map enT := by
  unfold enumI
  rw [List.zipIdx_map, List.map_map]
  rfl
theorem zipIdx_get {cs : List Int} {i : Nat} {a : Int × Nat} (h : cs.zipIdx[i]? = some a) : cs[i]? = some a.1 ∧ a.2 = i := by
  rw [List.getElem?_zipIdx] at h
  obtain ⟨x, h1, h2⟩ := Option.map_eq_some_iff.mp h
  subst h2
  exact ⟨h1, by simp⟩
theorem posL_nodup (cs : List Int) : (posL cs).Nodup := by
  unfold posL
  have h : ((cs.zipIdx.filter fun p => decide (0 < p.1)).map fun p => (p.2 : Nat)).Nodup := by
    refine List.Nodup.sublist ((List.filter_sublist).map _) ?_
    rw [List.zipIdx_map_snd]
    exact List.nodup_range'
  have h2 := List.pairwise_map.mp h
  exact List.pairwise_map.mpr (h2.imp fun hne e => hne (by have := (Prod.mk.inj e).2; lia))
theorem take_succ_get {α : Type} {l : List α} {i : Nat} {a : α} (h : l[i]? = some a) : l.take (i + 1) = l.take i ++ [a] := by rw [List.take_add_one, h]; rfl
theorem w_used {G : GC} (hG : G.recs = recsOf PV) {cs : List Int} (h0 : ∀ c ∈ cs, 0 ≤ c) (hl : cs.length < 64) (h2 : 2 ≤ (posL cs).length) :
    FnS G 1 r0 [LI cs] (fun r => ∃ qs : List (Int × Int), qs.Perm (posL cs) ∧ qs.Pairwise (fun a b => lexlt a b = true) ∧ r = .new (qs.map pairD)) := by
  have hd := r0_at
  generalize r0 = d at hd ⊢
  injection hd with hd
  subst hd
  refine fnS (by walk_at "b1") rfl ?_
  show ExL G 0 _ _ [(sN "counts", Val.d (LI cs))] _
  dsimp only
  refine exL_next (ex_assign (by walk_at "st") rfl (ev_list ⟨Nat.zero_le _, rfl, ?_⟩))
  refine exL_next (ex_forJ (fun (st : List (Int × Int)) => [(sN "found", Val.own (st.map pairD))]) (fun items i st => items = cs.zipIdx.map enT ∧ st = ((cs.zipIdx.take i).filter fun p => decide (0 < p.1)).map fun p => (p.1, (p.2 : Int)))
    ⟨[sN "symbol", sN "count"], rfl, by walk_at "sts"⟩ (it_enum (by exact rfl) ?_))
  walk_at "EE"
  refine ⟨_, ⟨rfl, by rw [List.length_map]; lia⟩, [], by walk_at "S", ⟨enumI_ints, by simp⟩, fun i d st hd ⟨hI, hst⟩ => ?_, fun st ⟨hI, hst⟩ => ⟨rfl, ?_⟩⟩
  · rw [hI] at hd
    obtain ⟨a, ha, rfl⟩ := mapGet hd
    obtain ⟨ha1, ha2⟩ := zipIdx_get ha
    have hc0 := h0 _ (List.mem_of_getElem? ha1)
    refine ⟨_, rfl, ?_⟩
    show ExL G 0 _ _ [(sN "found", Val.own (st.map pairD)), (sN "symbol", Val.d (.int a.2)), (sN "count", Val.d (.int a.1))] _
    refine exL_next (ex_if2 ?_)
    walk_at "EE"
    refine ⟨fun hc => absurd (of_decide_eq_true hc) (by lia), fun _ => exL_end ⟨rfl, ?_⟩⟩
    refine exL_next (ex_if2 ?_)
    walk_at "EE"
    refine ⟨fun hc => ?_, fun hc => ?_⟩
    · refine exL_next (ex_append (by rfl) ?_)
      refine ev_tuple ⟨rfl, ?_⟩
      walk_at "EE"
      refine ⟨rfl, ?_⟩
      walk_at "EE"
      refine ⟨Nat.le_of_ble_eq_true rfl, _, ⟨rfl, ?_⟩, rfl, ?_⟩
      · have h1 : ((cs.zipIdx.take i).filter fun p => decide (0 < p.1)).length ≤ i := Nat.le_trans (List.length_filter_le _ _) (by rw [List.length_take]; lia)
        have h3 : i < cs.length := (List.getElem?_eq_some_iff.mp ha1).1
        rw [List.length_map, hst, List.length_map]; lia
      · refine exL_end ⟨rfl, exL_end ⟨st ++ [(a.1, (a.2 : Int))], ?_, hI, ?_⟩⟩
        · rw [List.map_append]; walk_at "S"
        · rw [take_succ_get ha, List.filter_append, List.map_append, hst]
          congr 1
          rw [List.filter_cons]
          have hc := of_decide_eq_true hc
          simp [hc]
    · refine exL_end ⟨rfl, exL_end ⟨st, by walk_at "S", hI, ?_⟩⟩
      rw [take_succ_get ha, List.filter_append, List.map_append, hst]
      have hc := of_decide_eq_false hc
      simp [hc]
  · have e : st = posL cs := by
      rw [hst, hI, List.length_map, List.take_length]; rfl
    refine exL_cons (ex_return (ev_sortedT (by exact rfl) (ev_name_frz (by rfl) ?_)))
    subst e
    refine ⟨posL cs, ⟨rfl, h2, ?_, posL_nodup cs⟩, fun qs hp hs => ⟨_, .inl rfl, qs, hp, hs, rfl⟩⟩
    have h1 : (posL cs).length ≤ cs.length := by unfold posL; rw [List.length_map]; exact Nat.le_trans (List.length_filter_le _ _) (by rw [List.length_zipIdx]; exact Nat.le_refl _)
    lia
theorem w_total {G : GC} (hG : G.recs = recsOf PV) {cs ls : List Int} (hl : cs.length ≤ 2 ^ 20) (hll : ls.length ≤ 2 ^ 20) (h0 : ∀ (i : Nat) (c : Int), cs[i]? = some c → 0 < c → ∃ l : Int, ls[i]? = some l ∧ l ≠ 0 ∧ l.natAbs < 2 ^ 60) :
    FnS G 1 r1 [LI cs, LI ls] (fun r => r = .d (.int (totI cs ls))) := by
  have hd := r1_at
  generalize r1 = d at hd ⊢
  injection hd with hd
  subst hd
  refine fnS (by walk_at "b2") rfl ?_
  show ExL G 0 _ _ [(sN "counts", Val.d (LI cs)), (sN "lengths", Val.d (LI ls))] _
  dsimp only
  refine exL_next (ex_assign (by walk_at "st") rfl ?_)
  walk_at "EE"
  refine ⟨rfl, ?_⟩
  refine exL_next (ex_forJ (fun (st : Int) => [(sN "lengths", Val.d (LI ls)), (sN "found", Val.d (.int st))]) (fun items i st => items = cs.zipIdx.map enT ∧ st = (cs.zipIdx.take i).foldl (fun acc p => if 0 < p.1 then acc + p.1 * ls.getD p.2 0 else acc) 0)
    ⟨[sN "symbol", sN "count"], rfl, by walk_at "sts"⟩ (it_enum (by exact rfl) ?_))
  walk_at "EE"
  refine ⟨_, ⟨rfl, by rw [List.length_map]; lia⟩, 0, by walk_at "S", ⟨enumI_ints, by simp⟩, fun i d st hd ⟨hI, hst⟩ => ?_, fun st ⟨hI, hst⟩ => ⟨rfl, ?_⟩⟩
  · rw [hI] at hd
    obtain ⟨a, ha, rfl⟩ := mapGet hd
    obtain ⟨ha1, ha2⟩ := zipIdx_get ha
    have hil : i < cs.length := (List.getElem?_eq_some_iff.mp ha1).1
    refine ⟨_, rfl, ?_⟩
    show ExL G 0 _ _ [(sN "lengths", Val.d (LI ls)), (sN "found", Val.d (.int st)), (sN "symbol", Val.d (.int a.2)), (sN "count", Val.d (.int a.1))] _
    refine exL_next (ex_if2 ?_)
    walk_at "EE"
    refine ⟨fun hc => ?_, fun hc => ?_⟩
    · have hc := of_decide_eq_true hc
      obtain ⟨l, h1, h2, h3⟩ := h0 i _ ha1 hc
      have hls : i < ls.length := (List.getElem?_eq_some_iff.mp h1).1
      have hg : ls.getD a.2 0 = l := by rw [ha2, List.getD_eq_getElem?_getD, h1]; rfl
      refine exL_next (ex_if2 ?_)
      walk_at "EE"
      refine ⟨_, ⟨rfl, by rw [List.length_map]; lia⟩, ?_⟩
      walk_at "EE"
      refine ⟨fun hc => absurd (of_decide_eq_true hc) (by rw [List.length_map]; lia), fun _ => ?_⟩
      walk_at "EE"
      refine ⟨.int l, ⟨by lia, by lia, by rw [List.getElem?_map]; simp [ha2, h1]⟩, ?_⟩
      walk_at "EE"
      refine ⟨fun hc => absurd (beq_iff_eq.mp hc) h2, fun _ => exL_end ⟨rfl, ?_⟩⟩
      refine exL_next (ex_aug (by walk_at "st") (by rfl) ?_)
      walk_at "EE"
      refine ⟨.int l, ⟨by lia, by lia, by rw [List.getElem?_map]; simp [ha2, h1]⟩, ?_⟩
      walk_at "EE"
      refine ⟨.inr h3, _, rfl, rfl, ?_⟩
      refine exL_end ⟨rfl, exL_end ⟨st + a.1 * l, by walk_at "S", hI, ?_⟩⟩
      rw [take_succ_get ha, List.foldl_append, ← hst]
      simp only [List.foldl_cons, List.foldl_nil, hc, if_true, hg]
    · refine exL_end ⟨rfl, exL_end ⟨st, by walk_at "S", hI, ?_⟩⟩
      rw [take_succ_get ha, List.foldl_append, ← hst]
      have hc := of_decide_eq_false hc
      simp only [List.foldl_cons, List.foldl_nil, hc, if_false]
  · refine exL_cons (ex_return ?_)
    walk_at "EE"
    refine ⟨_, .inl rfl, ?_⟩
    rw [hst, hI, List.length_map, List.take_length]; rfl

theorem set_len (l : List ((Int × Int) × Int)) : ∀ (acc : List Int), (l.foldl (fun acc p => acc.set p.1.2.toNat p.2) acc).length = acc.length := by
  induction l with
  | nil => intro acc; rfl
  | cons a l ih => intro acc; rw [List.foldl_cons, ih, List.length_set]
theorem w_placed {G : GC} (hG : G.recs = recsOf PV) {size : Nat} {qs : List (Int × Int)} {ds : List Int} (hs : size ≤ 2 ^ 20) (hl : ds.length ≤ 2 ^ 20) (hq : ds.length ≤ qs.length) (h0 : ∀ p ∈ qs, 0 ≤ p.2 ∧ p.2 < size) :
    FnS G 1 r2 [.int size, .list (qs.map pairD), LI ds] (fun r => r = .d (LI (placeI size qs ds))) := by
  have hd := r2_at
  generalize r2 = d at hd ⊢
  injection hd with hd
  subst hd
  refine fnS (by walk_at "b3") rfl ?_
  show ExL G 0 _ _ [(sN "size", Val.d (.int size)), (sN "rows", Val.d (.list (qs.map pairD))), (sN "depths", Val.d (LI ds))] _
  dsimp only
  refine exL_next (ex_assign (by walk_at "st") rfl ?_)
  walk_at "EE"
  refine ⟨_, ⟨rfl, by lia, by lia⟩, rfl, ?_⟩
  refine exL_next (ex_forJ (fun (st : List Int) => [(sN "rows", Val.d (.list (qs.map pairD))), (sN "found", Val.own (st.map D.int))]) (fun items i st => items = ds.zipIdx.map enT ∧ st = ((qs.zip ds).take i).foldl (fun acc p => acc.set p.1.2.toNat p.2) (List.replicate size 0))
    ⟨[sN "place", sN "depth"], rfl, by walk_at "sts"⟩ (it_enum (by exact rfl) ?_))
  walk_at "EE"
  refine ⟨_, ⟨rfl, by rw [List.length_map]; lia⟩, List.replicate size 0, ?_, ⟨enumI_ints, by simp⟩, fun i d st hd ⟨hI, hst⟩ => ?_, fun st ⟨hI, hst⟩ => ⟨rfl, ?_⟩⟩
  · rw [List.map_replicate]; walk_at "S"
  · rw [hI] at hd
    obtain ⟨a, ha, rfl⟩ := mapGet hd
    obtain ⟨ha1, ha2⟩ := zipIdx_get ha
    have hil : i < ds.length := (List.getElem?_eq_some_iff.mp ha1).1
    have hq1 : qs[i]? = some qs[i] := List.getElem?_eq_getElem (by lia)
    obtain ⟨b0, b1⟩ := h0 _ (List.mem_of_getElem? hq1)
    have hz : (qs.zip ds)[i]? = some (qs[i], a.1) := by rw [List.getElem?_zip_eq_some]; exact ⟨hq1, ha1⟩
    have hlen : st.length = size := by rw [hst, set_len, List.length_replicate]
    refine ⟨_, rfl, ?_⟩
    show ExL G 0 _ _ [(sN "rows", Val.d (.list (qs.map pairD))), (sN "found", Val.own (st.map D.int)), (sN "place", Val.d (.int a.2)), (sN "depth", Val.d (.int a.1))] _
    refine exL_next (ex_setitem ?_)
    walk_at "EE"
    refine ⟨⟨_, rfl⟩, ?_⟩
    walk_at "EE"
    refine ⟨pairD qs[i], ⟨by lia, by lia, by rw [List.getElem?_map]; simp [ha2, hq1]⟩, ?_⟩
    walk_at "EE"
    refine ⟨.int qs[i].2, ⟨by decide, by decide, rfl⟩, ?_⟩
    refine ⟨_, _, ⟨rfl, rfl, b0, by lia, by rw [List.length_map]; lia⟩, rfl, ?_⟩
    refine exL_end ⟨st.set qs[i].2.toNat a.1, ?_, hI, ?_⟩
    · rw [List.map_set]; walk_at "S"
    · rw [take_succ_get hz, List.foldl_append, ← hst]; rfl
  · refine exL_cons (ex_return (ev_name_frz (by rfl) ?_))
    refine ⟨_, .inl rfl, ?_⟩
    have e : st = placeI size qs ds := by
      rw [hst, hI, List.length_map, List.length_zipIdx, List.take_of_length_le (by rw [List.length_zip]; lia)]; rfl
    rw [e]

theorem w_check {G : GC} (hG : G.recs = recsOf PV) {many longest : Int} (h0 : 1 ≤ longest) (h1 : longest ≤ 1000) (h2 : many ≤ 2 ^ longest.toNat) : FnS G 1 r3 [.int many, .int longest] (fun r => r = .d .non) := by
  have hd := r3_at
  generalize r3 = d at hd ⊢
  injection hd with hd
  subst hd
  refine fnS (by walk_at "b2") rfl ?_
  show ExL G 0 _ _ [(sN "many", Val.d (.int many)), (sN "longest", Val.d (.int longest))] _
  dsimp only
  refine exL_next (ex_if2 ?_)
  have hmax : max 0 longest = longest := by lia
  walk_at "EE"
  refine ⟨fun hc => ?_, fun hc => ?_⟩
  · walk_at "EE"
    refine ⟨fun hc => absurd (of_decide_eq_true hc) (by lia), fun _ => ?_⟩
    walk_at "EE"
    refine ⟨_, rfl, ?_⟩
    walk_at "EE"
    refine ⟨_, rfl, ?_⟩
    rw [hmax]
    walk_at "EE"
    refine ⟨⟨by lia, h1, by decide⟩, ?_⟩
    walk_at "EE"
    exact ⟨fun hc => absurd (of_decide_eq_true hc) (by lia), fun _ => exL_end ⟨rfl, exL_end ⟨_, .inr ⟨rfl, rfl⟩, rfl⟩⟩⟩
  · refine ⟨fun h => (nomatch h), fun _ => ?_⟩
    walk_at "EE"
    refine ⟨_, rfl, ?_⟩
    walk_at "EE"
    refine ⟨_, rfl, ?_⟩
    rw [hmax]
    walk_at "EE"
    refine ⟨⟨by lia, h1, by decide⟩, ?_⟩
    walk_at "EE"
    exact ⟨fun hc => absurd (of_decide_eq_true hc) (by lia), fun _ => exL_end ⟨rfl, exL_end ⟨_, .inr ⟨rfl, rfl⟩, rfl⟩⟩⟩
def LB (bs : List Bool) : D := .list (bs.map D.bool)
theorem w_merged {G : GC} (hG : G.recs = recsOf PV) {ws ps : List Int} (hw : ws.length ≤ 1000) (hp : ps.length ≤ 1000) :
    FnS G 1 r4 [LI ws, LI ps] (fun r => r = .d (.tup [LI ((mg ws ps).map (·.1)), LB ((mg ws ps).map (·.2))])) := by
  have hd := r4_at
  generalize r4 = d at hd ⊢
  injection hd with hd
  subst hd
  refine fnS (by walk_at "b2") rfl ?_
  show ExL G 0 _ _ [(sN "weights", Val.d (LI ws)), (sN "pairs", Val.d (LI ps))] _
  dsimp only
  refine exL_next (ex_tup_plain (xs := [sN "row", sN "leaves", sN "leaf", sN "pair"]) rfl (by walk_at "sts") (by walk_at "sw") ?_)
  refine ⟨rfl, ev_list ⟨Nat.zero_le _, rfl, ev_list ⟨Nat.zero_le _, rfl, ?_⟩⟩⟩
  walk_at "EE"
  refine ⟨rfl, ?_⟩
  walk_at "EE"
  refine ⟨⟨rfl, Nat.le_of_ble_eq_true rfl⟩, rfl, ?_⟩
  refine exL_to [(sN "row", Val.own ((mg ws ps).map fun p => D.int p.1)), (sN "leaves", Val.own ((mg ws ps).map fun p => D.bool p.2))] (ex_while (fun m V₁ => ∃ (i j : Nat) (acc : List (Int × Bool)), i ≤ ws.length ∧ j ≤ ps.length ∧ acc ++ mg (ws.drop i) (ps.drop j) = mg ws ps ∧ acc.length = i + j ∧ m = (ws.length - i) + (ps.length - j) ∧
    Sub [(sN "weights", Val.d (LI ws)), (sN "pairs", Val.d (LI ps)), (sN "row", Val.own (acc.map fun p => D.int p.1)), (sN "leaves", Val.own (acc.map fun p => D.bool p.2)), (sN "leaf", Val.d (.int i)), (sN "pair", Val.d (.int j))] V₁) (ws.length + ps.length)
    ⟨0, 0, [], Nat.zero_le _, Nat.zero_le _, rfl, rfl, rfl, by walk_at "S"⟩ ?_) ?_
  · rintro m V₁ ⟨i, j, acc, hi, hj, he, hl, rfl, hs⟩
    refine CoQ.sub ?_ hs
    refine CoQ.post (P := fun c V₂ => (c = true → i < ws.length ∨ j < ps.length) ∧ (c = false → i = ws.length ∧ j = ps.length) ∧ Sub [(sN "weights", Val.d (LI ws)), (sN "pairs", Val.d (LI ps)), (sN "row", Val.own (acc.map fun p => D.int p.1)), (sN "leaves", Val.own (acc.map fun p => D.bool p.2)), (sN "leaf", Val.d (.int i)), (sN "pair", Val.d (.int j))] V₂) ?_ (fun c V₂ ⟨h1, h2, h3⟩ => ⟨V₂, .refl _, ifT ⟨fun hc => ?_, fun hc => ?_⟩⟩)
    · refine co_or2 ?_
      walk_at "EE"
      refine ⟨_, ⟨rfl, by rw [List.length_map]; lia⟩, ?_⟩
      walk_at "EE"
      rw [List.length_map]
      refine ⟨fun hc => ⟨fun _ => .inl (by have := of_decide_eq_true hc; lia), fun h => (nomatch h), by walk_at "S"⟩, fun hc => ?_⟩
      have hc := of_decide_eq_false hc
      walk_at "EE"
      refine ⟨_, ⟨rfl, by rw [List.length_map]; lia⟩, ?_⟩
      walk_at "EE"
      rw [List.length_map]
      exact ⟨fun hc => .inr (by have := of_decide_eq_true hc; lia), fun hc => by have := of_decide_eq_false hc; lia, by walk_at "S"⟩
    · have hor := h1 hc
      refine ExL.sub ?_ h3
      refine exL_step (P := fun V₁ => ∃ b : Bool, (b = true → ∃ hi : i < ws.length, j = ps.length ∨ ∃ hj : j < ps.length, ws[i] ≤ ps[j]) ∧ (b = false → ∃ hj : j < ps.length, i = ws.length ∨ ∃ hi : i < ws.length, ¬ ws[i] ≤ ps[j]) ∧
        Sub [(sN "weights", Val.d (LI ws)), (sN "pairs", Val.d (LI ps)), (sN "row", Val.own (acc.map fun p => D.int p.1)), (sN "leaves", Val.own (acc.map fun p => D.bool p.2)), (sN "leaf", Val.d (.int i)), (sN "pair", Val.d (.int j)), (sN "is_leaf", Val.d (.bool b))] V₁) (ex_assign (by walk_at "st") rfl ?_) ?_
      · walk_at "EE"
        refine ⟨_, ⟨rfl, by rw [List.length_map]; lia⟩, ?_⟩
        walk_at "EE"
        rw [List.length_map]
        refine ⟨_, rfl, fun hc => ⟨rfl, true, fun _ => ⟨by have := beq_iff_eq.mp hc; lia, .inl (by have := beq_iff_eq.mp hc; lia)⟩, fun h => (nomatch h), by walk_at "S"⟩, fun hc => ?_⟩
        have hj' : j < ps.length := by
          have : ¬ (j : Int) = ps.length := fun e => by rw [beq_eq_false_iff_ne] at hc; exact hc e
          lia
        walk_at "EE"
        refine ⟨_, ⟨rfl, by rw [List.length_map]; lia⟩, ?_⟩
        walk_at "EE"
        rw [List.length_map]
        refine ⟨_, rfl, fun hc => ?_, fun hc => ⟨rfl, false, fun h => (nomatch h), fun _ => ⟨hj', .inl (by have := of_decide_eq_false hc; lia)⟩, by walk_at "S"⟩⟩
        have hi' : i < ws.length := by have := of_decide_eq_true hc; lia
        walk_at "EE"
        refine ⟨.int ws[i], ⟨by lia, by lia, by rw [List.getElem?_map]; simp [List.getElem?_eq_getElem hi']⟩, ?_⟩
        walk_at "EE"
        refine ⟨.int ps[j], ⟨by lia, by lia, by rw [List.getElem?_map]; simp [List.getElem?_eq_getElem hj']⟩, ?_⟩
        walk_at "EE"
        exact ⟨rfl, decide (ws[i] ≤ ps[j]), fun h => ⟨hi', .inr ⟨hj', of_decide_eq_true h⟩⟩, fun h => ⟨hj', .inr ⟨hi', of_decide_eq_false h⟩⟩, by walk_at "S"⟩
      · rintro V₁ ⟨b, hb1, hb2, hs1⟩
        refine ExL.sub ?_ hs1
        refine exL_to [(sN "weights", Val.d (LI ws)), (sN "pairs", Val.d (LI ps)), (sN "row", Val.own (acc.map fun p => D.int p.1)), (sN "leaves", Val.own ((acc.map fun p => D.bool p.2) ++ [D.bool b])), (sN "leaf", Val.d (.int i)), (sN "pair", Val.d (.int j)), (sN "is_leaf", Val.d (.bool b))] (ex_append (by rfl) ?_) ?_
        · walk_at "EE"
          exact ⟨_, ⟨rfl, by rw [List.length_map]; lia⟩, rfl, by walk_at "S"⟩
        refine exL_next (ex_if2 (co_plain ?_))
        walk_at "EE"
        refine ⟨b, ⟨rfl, fun xs h => (nomatch h)⟩, fun hb => ?_, fun hb => ?_⟩
        · obtain ⟨hi', h⟩ := hb1 hb
          refine exL_next (ex_append (by rfl) ?_)
          walk_at "EE"
          refine ⟨.int ws[i], ⟨by lia, by lia, by rw [List.getElem?_map]; simp [List.getElem?_eq_getElem hi']⟩, ?_⟩
          refine ⟨_, ⟨rfl, by rw [List.length_map]; lia⟩, rfl, ?_⟩
          refine exL_next (ex_aug (by walk_at "st") (by rfl) ?_)
          walk_at "EE"
          refine ⟨_, rfl, rfl, exL_end ⟨rfl, exL_end ⟨(ws.length - (i + 1)) + (ps.length - j), by lia, i + 1, j, acc ++ [(ws[i], true)], hi', hj, ?_, by rw [List.length_append, hl]; show i + j + 1 = _; lia, rfl, ?_⟩⟩⟩
          · rw [← he, mg_leaf hi' h, List.append_assoc]; rfl
          · rw [List.map_append, List.map_append]
            subst hb
            walk_at "S"
        · obtain ⟨hj', h⟩ := hb2 hb
          refine exL_next (ex_append (by rfl) ?_)
          walk_at "EE"
          refine ⟨.int ps[j], ⟨by lia, by lia, by rw [List.getElem?_map]; simp [List.getElem?_eq_getElem hj']⟩, ?_⟩
          refine ⟨_, ⟨rfl, by rw [List.length_map]; lia⟩, rfl, ?_⟩
          refine exL_next (ex_aug (by walk_at "st") (by rfl) ?_)
          walk_at "EE"
          refine ⟨_, rfl, rfl, exL_end ⟨rfl, exL_end ⟨(ws.length - i) + (ps.length - (j + 1)), by lia, i, j + 1, acc ++ [(ps[j], false)], hi, hj', ?_, by rw [List.length_append, hl]; show i + j + 1 = _; lia, rfl, ?_⟩⟩⟩
          · rw [← he, mg_pair hj' h, List.append_assoc]; rfl
          · rw [List.map_append, List.map_append]
            subst hb
            walk_at "S"
    · obtain ⟨e1, e2⟩ := h2 hc
      refine ⟨rfl, ?_⟩
      have e3 : acc = mg ws ps := by
        rw [← he, e1, e2, List.drop_length, List.drop_length]; simp [mg_nil]
      rw [e3] at h3
      exact Sub.trans (by walk_at "S") h3
  · refine exL_cons (ex_return (ev_tuple ⟨rfl, ev_name_frz (by rfl) ⟨rfl, ev_name_frz (by rfl) ⟨Nat.le_of_ble_eq_true rfl, _, .inl rfl, ?_⟩⟩⟩))
    simp only [R.frz, LI, LB, List.map_map]; rfl
theorem rangeSize_step2 {n : Nat} : (Builtin.Range.rangeSize 0 ((n : Int) - 1) 2).toNat = n / 2 := by
  unfold Builtin.Range.rangeSize
  rw [if_pos (by decide)]
  by_cases h : (0 : Int) < (n : Int) - 1
  · rw [if_pos h]; lia
  · rw [if_neg h]; lia
theorem pairs_eq : ∀ (l : List Int), (List.range (l.length / 2)).map (fun i => l.getD (2 * i) 0 + l.getD (2 * i + 1) 0) = pairsI l
  | [] => rfl
  | [_] => by simp [pairsI]
  | a :: b :: r => by
    have e : (a :: b :: r).length / 2 = r.length / 2 + 1 := by simp only [List.length_cons]; lia
    rw [e, List.range_succ_eq_map, List.map_cons, List.map_map]
    show _ = (a + b) :: pairsI r
    rw [← pairs_eq r]
    congr 1
theorem rangeI_get {a c : Int} {m i : Nat} {k : Int} (h : (rangeI a c m)[i]? = some k) : i < m ∧ k = a + i * c := by
  unfold rangeI at h
  obtain ⟨j, h1, h2⟩ := mapGet h
  rw [List.getElem?_range] at h1
  · cases h1
    obtain ⟨hj, _⟩ := List.getElem?_eq_some_iff.mp h
    simp at hj
    exact ⟨hj, h2⟩
  · obtain ⟨hj, _⟩ := List.getElem?_eq_some_iff.mp h
    simpa using hj
theorem rangeI_len {a c : Int} {m : Nat} : (rangeI a c m).length = m := by simp [rangeI]
theorem rowsB_len (ws : List Int) (L : Nat) : (rowsB ws L).length = L := by unfold rowsB; simp
theorem foldl_count (bs : List Bool) : ∀ (t : Int), bs.foldl (fun t b => t + if b = true then 1 else 0) t = t + (bs.count true : Int) := by
  induction bs with
  | nil => intro t; simp
  | cons b bs ih =>
    intro t
    rw [List.foldl_cons, ih]
    cases b <;> simp <;> lia
theorem w_package {G : GC} (hG : G.recs = recsOf PV) {ws : List Int} {L : Nat} (hw : ws.length ≤ 100) (hw1 : 1 ≤ ws.length) (hL : L ≤ 100) :
    FnS G 2 r5 [LI ws, .int L] (fun r => r = .d (LI (pkg ws L))) := by
  have hd := r5_at
  generalize r5 = d at hd ⊢
  injection hd with hd
  subst hd
  refine fnS (by walk_at "b2") rfl ?_
  show ExL G 1 _ _ [(sN "weights", Val.d (LI ws)), (sN "longest", Val.d (.int L))] _
  dsimp only
  refine exL_next (ex_tup_plain (xs := [sN "rows", sN "row"]) rfl (by walk_at "sts") (by walk_at "sw") ?_)
  refine ⟨rfl, ev_list ⟨Nat.zero_le _, rfl, ev_list ⟨Nat.zero_le _, ⟨rfl, Nat.le_of_ble_eq_true rfl⟩, rfl, ?_⟩⟩⟩
  refine exL_frz (y := sN "row") (by rfl) ?_
  refine exL_next (ex_forJ (fun (k : Nat) => [(sN "weights", Val.d (LI ws)), (sN "rows", Val.own ((rowsB ws k).map LB)), (sN "row", Val.d (LI ((rowK ws k).map (·.1))))]) (fun items i st => items.length = L ∧ st = i) (by walk_at "st") (it_range1 (by exact rfl) ?_))
  walk_at "EE"
  refine ⟨_, ⟨rfl, by lia, by lia⟩, 0, by walk_at "S", ⟨by rw [List.length_map, rangeI_len]; lia, rfl⟩, fun i d st hd ⟨hI, hst⟩ => ⟨_, rfl, ?_⟩, fun st ⟨hI, hst⟩ => ⟨rfl, ?_⟩⟩
  · have hrl : ((rowK ws st).map (·.1)).length ≤ 200 := by rw [List.length_map]; have := rowK_len ws st; lia
    generalize hrow : (rowK ws st).map (·.1) = row at hrl ⊢
    refine exL_next (ex_assign_compM (by walk_at "st") rfl (by walk_at "st") rfl (comp_m D.int (it_range3 (by exact rfl) ?_)))
    walk_at "EE"
    refine ⟨_, rfl, ?_⟩
    walk_at "EE"
    refine ⟨_, ⟨rfl, by rw [List.length_map]; lia⟩, ?_⟩
    walk_at "EE"
    refine ⟨_, rfl, ?_⟩
    walk_at "EE"
    rw [List.length_map]
    refine ⟨_, rfl, ⟨by lia, by lia, by lia, by lia, by lia, by lia⟩, _, fun k => .int (row.getD k.toNat 0 + row.getD (k + 1).toNat 0), rfl, fun k hk => ⟨_, rfl, ?_⟩, rfl, ?_⟩
    · obtain ⟨j, hj⟩ := List.getElem?_of_mem hk
      obtain ⟨hj1, hj2⟩ := rangeI_get hj
      rw [rangeSize_step2] at hj1
      have h1 : k.toNat < row.length := by lia
      have h2 : (k + 1).toNat < row.length := by lia
      walk_at "EE"
      refine ⟨.int (row.getD k.toNat 0), ⟨by lia, by lia, by rw [List.getElem?_map, List.getElem?_eq_getElem h1, List.getD_eq_getElem?_getD, List.getElem?_eq_getElem h1]; rfl⟩, ?_⟩
      walk_at "EE"
      refine ⟨.int (row.getD (k + 1).toNat 0), ⟨by lia, by lia, by rw [List.getElem?_map, List.getElem?_eq_getElem h2, List.getD_eq_getElem?_getD, List.getElem?_eq_getElem h2]; rfl⟩, ?_⟩
      walk_at "EE"
      exact ⟨by walk_at "S", rfl⟩
    have epairs : (rangeI 0 2 (Builtin.Range.rangeSize 0 ((row.length : Int) - 1) 2).toNat).map (fun k => D.int (row.getD k.toNat 0 + row.getD (k + 1).toNat 0)) = (pairsI row).map D.int := by
      rw [rangeSize_step2, ← pairs_eq, rangeI, List.map_map, List.map_map]
      refine List.map_congr_left fun i _ => ?_
      show D.int (row.getD (0 + (i : Int) * 2).toNat 0 + row.getD (0 + (i : Int) * 2 + 1).toNat 0) = D.int (row.getD (2 * i) 0 + row.getD (2 * i + 1) 0)
      have e1 : (0 + (i : Int) * 2).toNat = 2 * i := by lia
      have e2 : (0 + (i : Int) * 2 + 1).toNat = 2 * i + 1 := by lia
      rw [e1, e2]
    rw [epairs]
    refine exL_next (ex_unpack (xs := [sN "row", sN "leaves"]) rfl (by walk_at "sts") (fun _ => rfl) (fun _ => rfl) (ev_call (memR hG r4_at) r4_nm (by exact rfl) ⟨rfl, ?_⟩))
    walk_at "EE"
    refine ⟨rfl, ?_⟩
    walk_at "EE"
    refine (w_merged hG (by lia) (by rw [pairsI_len]; lia)).use (Nat.le_refl _) fun r hr => ⟨_, ⟨hr, rfl⟩, rfl, ?_⟩
    refine exL_next (ex_append (by rfl) ?_)
    walk_at "EE"
    refine ⟨_, ⟨rfl, by rw [List.length_map, rowsB_len]; have := (List.getElem?_eq_some_iff.mp hd).1; lia⟩, rfl, ?_⟩
    refine exL_end ⟨st + 1, ?_, hI, by rw [hst]⟩
    have e3 : rowsB ws (st + 1) = rowsB ws st ++ [(rowK ws (st + 1)).map (·.2)] := by unfold rowsB; rw [List.range_succ, List.map_append]; rfl
    have e4 : rowK ws (st + 1) = mg ws (pairsI row) := by rw [← hrow]; rfl
    rw [e3, List.map_append, e4]
    walk_at "S"
  · rw [hI] at hst
    rw [hst]
    refine exL_next (ex_tup_swap (xs := [sN "depths", sN "wanted"]) rfl (by walk_at "sts") (by walk_at "sw") ?_)
    refine ⟨rfl, ?_⟩
    walk_at "EE"
    refine ⟨_, ⟨rfl, by rw [List.length_map]; lia⟩, ?_⟩
    refine ⟨_, ⟨rfl, by lia, by rw [List.length_map]; lia⟩, rfl, ?_⟩
    walk_at "EE"
    refine ⟨_, ⟨rfl, by rw [List.length_map]; lia⟩, ?_⟩
    refine ⟨.inl (by decide), ?_⟩
    walk_at "EE"
    rw [List.length_map]
    refine ⟨⟨rfl, Nat.le_of_ble_eq_true rfl⟩, rfl, ?_⟩
    refine exL_next (ex_forJ (fun (st : List Int × Nat) => [(sN "depths", Val.own (st.1.map D.int)), (sN "wanted", Val.d (.int st.2))]) (fun items i st => items = (rowsB ws L).reverse.map LB ∧ st = ((rowsB ws L).reverse.take i).foldl btStep (List.replicate ws.length 0, 2 * ws.length - 2) ∧ st.1.length = ws.length)
      (by walk_at "st") (it_rev (by exact rfl) ?_))
    walk_at "EE"
    refine ⟨_, ⟨rfl, by rw [List.length_map, rowsB_len]; lia⟩, (List.replicate ws.length 0, 2 * ws.length - 2), ?_, ⟨by rw [List.map_reverse], rfl, List.length_replicate⟩, fun i d st hd ⟨hI, hst, hlen⟩ => ?_, fun st ⟨hI, hst, hlen⟩ => ⟨rfl, ?_⟩⟩
    · have e1 : (Int.toNat (ws.length : Int)) = ws.length := by lia
      have e2 : (2 * (ws.length : Int) - 2) = ((2 * ws.length - 2 : Nat) : Int) := by lia
      rw [List.map_replicate, e1, e2]
      walk_at "S"
    · rw [hI] at hd
      obtain ⟨bs, hbs, rfl⟩ := mapGet hd
      have hbl : bs.length ≤ 200 ∧ bs.count true = ws.length := by
        have hm : bs ∈ rowsB ws L := List.mem_reverse.mp (List.mem_of_getElem? hbs)
        unfold rowsB at hm
        obtain ⟨k, _, rfl⟩ := List.mem_map.mp hm
        refine ⟨by rw [List.length_map]; have := rowK_len ws (k + 1); lia, mg_count _ _⟩
      obtain ⟨ds, w⟩ := st
      dsimp only at hlen
      have ht1 : (bs.take w).count true ≤ ws.length := by rw [← hbl.2]; exact (List.take_sublist w bs).count_le _
      have ht2 : (bs.take w).count true ≤ w := Nat.le_trans List.count_le_length (by rw [List.length_take]; lia)
      refine ⟨_, rfl, ?_⟩
      show ExL G 1 _ _ [(sN "depths", Val.own (ds.map D.int)), (sN "wanted", Val.d (.int w)), (sN "leaves", Val.d (LB bs))] _
      refine exL_next (ex_assign (by walk_at "st") rfl ?_)
      walk_at "EE"
      refine ⟨rfl, ?_⟩
      refine exL_next (ex_forJ (fun (t : Int) => [(sN "depths", Val.own (ds.map D.int)), (sN "wanted", Val.d (.int w)), (sN "taken", Val.d (.int t))]) (fun items i t => items = (bs.take w).map D.bool ∧ t = ((bs.take w).take i).foldl (fun t b => t + if b = true then 1 else 0) 0) (by walk_at "st") (it_list ?_))
      walk_at "EE"
      have ec : cutTo (bs.map D.bool) (w : Int) = (bs.take w).map D.bool := by
        unfold cutTo; rw [if_pos (by lia), ← List.map_take]; congr 1
      refine ⟨_, _, ⟨rfl, rfl, by rw [List.length_map]; lia⟩, _, ⟨rfl, ?_⟩, 0, by walk_at "S", ⟨ec, by simp⟩, fun i d t hd ⟨hI2, ht⟩ => ?_, fun t ⟨hI2, ht⟩ => ⟨rfl, ?_⟩⟩
      · show (cutTo (bs.map D.bool) (w : Int)).length ≤ _
        rw [ec, List.length_map, List.length_take]; lia
      · rw [hI2] at hd
        obtain ⟨b, hb, rfl⟩ := mapGet hd
        refine ⟨_, rfl, ?_⟩
        refine exL_next (ex_aug (by walk_at "st") (by rfl) ?_)
        walk_at "EE"
        refine ⟨_, rfl, _, rfl, rfl, exL_end ⟨t + if b = true then 1 else 0, by walk_at "S", hI2, ?_⟩⟩
        rw [take_succ_get hb, List.foldl_append, ← ht]; rfl
      · have et : t = ((bs.take w).count true : Int) := by
          rw [ht, hI2, List.length_map, List.take_length, foldl_count]; lia
        rw [et]
        generalize htk : (bs.take w).count true = tk at ht1 ht2 ⊢
        refine exL_next (ex_forJ (fun (j : Nat) => [(sN "depths", Val.own ((incN j ds).map D.int)), (sN "wanted", Val.d (.int w)), (sN "taken", Val.d (.int tk))]) (fun items i j => items = (rangeI 0 1 tk).map D.int ∧ j = i) (by walk_at "st") (it_range1 (by exact rfl) ?_))
        walk_at "EE"
        refine ⟨_, ⟨rfl, by lia, by lia⟩, 0, by walk_at "S", ⟨by congr 2, rfl⟩, fun i d j hd ⟨hI3, hj⟩ => ?_, fun j ⟨hI3, hj⟩ => ⟨rfl, ?_⟩⟩
        · rw [hI3] at hd
          obtain ⟨k, hk, rfl⟩ := mapGet hd
          obtain ⟨hk1, hk2⟩ := rangeI_get hk
          subst hj
          have hjd : j < ds.length := by lia
          have ek : k.toNat = j := by lia
          refine ⟨_, rfl, ?_⟩
          refine exL_next (ex_augitem (by rfl) ?_)
          walk_at "EE"
          refine ⟨_, _, ds.getD j 0, ⟨rfl, rfl, by lia, by lia, by rw [List.getElem?_map, ek, incN_get hjd]; rfl⟩, ?_⟩
          walk_at "EE"
          refine ⟨_, _, ⟨rfl, rfl, by rw [List.length_map, incN_len, ek]; exact hjd⟩, rfl, exL_end ⟨j + 1, ?_, hI3, rfl⟩⟩
          rw [incN_succ hjd, List.map_set, ek]
          walk_at "S"
        · rw [hI3, List.length_map, rangeI_len] at hj
          subst hj
          refine exL_next (ex_assign (by walk_at "st") rfl ?_)
          walk_at "EE"
          refine ⟨.inl (by decide), rfl, exL_end ⟨btStep (ds, w) bs, ?_, hI, ?_, ?_⟩⟩
          · unfold btStep
            dsimp only
            rw [htk]
            have e5 : (2 * ((w : Int) - (j : Int))) = ((2 * (w - j) : Nat) : Int) := by lia
            rw [e5]
            walk_at "S"
          · rw [take_succ_get hbs, List.foldl_append, ← hst]; rfl
          · unfold btStep
            dsimp only
            rw [incN_len]; exact hlen
    · refine exL_cons (ex_return (ev_name_frz (by rfl) ?_))
      refine ⟨_, .inl rfl, ?_⟩
      rw [hI, List.length_map, List.take_length] at hst
      rw [hst]
      rfl
def lsR (cs : List Int) (L : Nat) (ls : List Int) : Prop := ∃ qs : List (Int × Int), qs.Perm (posL cs) ∧ qs.Pairwise (fun a b => lexlt a b = true) ∧ ls = placeI cs.length qs (pkg (qs.map (·.1)) L)
theorem btFold_len (rows : List (List Bool)) : ∀ st : List Int × Nat, (rows.foldl btStep st).1.length = st.1.length := by
  induction rows with
  | nil => intro st; rfl
  | cons r rows ih => intro st; rw [List.foldl_cons, ih]; exact incN_len _ _
theorem pkg_len (ws : List Int) (L : Nat) : (pkg ws L).length = ws.length := by
  unfold pkg; rw [btFold_len, List.length_replicate]
theorem posL_mem {cs : List Int} {p : Int × Int} (h : p ∈ posL cs) : ∃ i : Nat, p.2 = i ∧ cs[i]? = some p.1 ∧ 0 < p.1 := by
  unfold posL at h
  obtain ⟨a, ha, rfl⟩ := List.mem_map.mp h
  obtain ⟨h1, h2⟩ := List.mem_filter.mp ha
  obtain ⟨i, hi⟩ := List.getElem?_of_mem h1
  obtain ⟨h3, h4⟩ := zipIdx_get hi
  refine ⟨a.2, rfl, ?_, of_decide_eq_true h2⟩
  rw [h4]; exact h3
theorem posL_len (cs : List Int) : (posL cs).length ≤ cs.length := by
  unfold posL; rw [List.length_map]; exact Nat.le_trans (List.length_filter_le _ _) (by rw [List.length_zipIdx]; exact Nat.le_refl _)
theorem w_least {G : GC} (hG : G.recs = recsOf PV) {cs : List Int} {L : Nat} (h0 : ∀ c ∈ cs, 0 ≤ c) (hl : cs.length < 64) (h2 : 2 ≤ (posL cs).length) (hL1 : 1 ≤ L) (hL : L ≤ 100) (hr : (posL cs).length ≤ 2 ^ L) :
    FnS G 3 r6 [LI cs, .int L] (fun r => ∃ ls, r = .d (LI ls) ∧ lsR cs L ls) := by
  have hd := r6_at
  generalize r6 = d at hd ⊢
  injection hd with hd
  subst hd
  refine fnS (by walk_at "b2") rfl ?_
  show ExL G 2 _ _ [(sN "counts", Val.d (LI cs)), (sN "longest", Val.d (.int L))] _
  dsimp only
  refine exL_step (P := fun V₁ => ∃ qs : List (Int × Int), qs.Perm (posL cs) ∧ qs.Pairwise (fun a b => lexlt a b = true) ∧ Sub [(sN "counts", Val.d (LI cs)), (sN "longest", Val.d (.int L)), (sN "rows", Val.own (qs.map pairD))] V₁) (ex_assign (by walk_at "st") rfl (ev_call (memR hG r0_at) r0_nm (by exact rfl) ⟨rfl, ?_⟩)) ?_
  · walk_at "EE"
    refine (w_used hG h0 hl h2).use (n := 2) (by decide) fun r ⟨qs, hp, hs, hr⟩ => ⟨rfl, qs, hp, hs, ?_⟩
    subst hr
    walk_at "S"
  rintro V₁ ⟨qs, hp, hs, hsub⟩
  refine ExL.sub (exL_frz (y := sN "rows") (by rfl) ?_) hsub
  have hql : qs.length = (posL cs).length := hp.length_eq
  have hpl := posL_len cs
  refine exL_next (ex_call (ev_call (memR hG r3_at) r3_nm (by exact rfl) ⟨rfl, ?_⟩))
  walk_at "EE"
  refine ⟨_, ⟨rfl, by rw [List.length_map]; lia⟩, rfl, ?_⟩
  walk_at "EE"
  rw [List.length_map]
  refine (w_check hG (many := qs.length) (longest := L) (by lia) (by lia) ?_).use (n := 2) (by decide) fun r hr => ⟨hr, rfl, ?_⟩
  · have e : ((L : Int)).toNat = L := by lia
    rw [e, hql]
    exact_mod_cast hr
  refine exL_ifret ?_
  walk_at "EE"
  refine ⟨_, ⟨rfl, by rw [List.length_map]; lia⟩, ?_⟩
  walk_at "EE"
  rw [List.length_map]
  refine ⟨fun hc => absurd (of_decide_eq_true hc) (by lia), fun _ => ?_⟩
  refine exL_cons (ex_return (ev_call (memR hG r2_at) r2_nm (by exact rfl) ⟨rfl, ?_⟩))
  walk_at "EE"
  refine ⟨_, ⟨rfl, by rw [List.length_map]; lia⟩, rfl, ?_⟩
  walk_at "EE"
  refine ⟨rfl, ?_⟩
  refine ev_call (memR hG r5_at) r5_nm (by exact rfl) ⟨rfl, ?_⟩
  refine ev_compM rfl ⟨[sN "count", sN "symbol"], rfl, by walk_at "sts"⟩ rfl (comp_m pairD (it_list ?_))
  walk_at "EE"
  refine ⟨_, ⟨rfl, by rw [List.length_map]; lia⟩, qs, fun p => .int p.1, rfl, fun p hp => ⟨_, rfl, ?_⟩, rfl, ?_⟩
  · walk_at "EE"
    exact ⟨by walk_at "S", rfl⟩
  walk_at "EE"
  have e6 : (R.new (qs.map fun p => D.int p.1)).frz = LI (qs.map (·.1)) := by
    show D.list _ = D.list _
    rw [List.map_map]; rfl
  rw [e6]
  show FnS G 2 r5 [LI (qs.map (·.1)), .int L] _
  refine (w_package hG (ws := qs.map (·.1)) (by rw [List.length_map]; lia) (by rw [List.length_map]; lia) hL).use (n := 2) (by decide) fun r hr => ?_
  subst hr
  show FnS G 2 r2 [.int ((cs.map D.int).length : Int), .list (qs.map pairD), LI (pkg (qs.map (·.1)) L)] _
  rw [List.length_map]
  refine (w_placed hG (size := cs.length) (qs := qs) (ds := pkg (qs.map (·.1)) L) (by lia) (by rw [pkg_len, List.length_map]; lia) (by rw [pkg_len, List.length_map]; lia) fun p hpq => ?_).use (n := 2) (by decide) fun r hr => ?_
  · obtain ⟨i, e1, e2, _⟩ := posL_mem (hp.mem_iff.mp hpq)
    have := (List.getElem?_eq_some_iff.mp e2).1
    lia
  · exact ⟨r, .inl rfl, _, hr, qs, hp, hs, rfl⟩
local macro_rules | `(tactic| walk_at "T") => `(tactic| (refine ev_call_jar (memR (by assumption) r8_at) r8_nm (by exact rfl) (by rfl) ⟨rfl, ?_⟩; walk_at "EE"))
theorem map_take_int (l : List Int) (s : Nat) : cutTo (l.map D.int) (s : Int) = (l.take s).map D.int := by
  have := cutTo_map (ns := l) (k := (s : Int)) (by lia)
  simpa using this
theorem w_tree {G : GC} (hG : G.recs = recsOf PV) {js : List D} (hj : JarOk js) :
    FnJ G 2 r9 js [] (fun r js' => ∃ l g : List Int, r = .d (.tup [LI l, LI g]) ∧ (3 ≤ l.length ∧ l.length ≤ 9 ∧ g.length = l.length) ∧ (∀ x ∈ l, 1 ≤ x ∧ x ≤ 8) ∧ (∀ x ∈ g, 0 ≤ x ∧ x ≤ 3) ∧ JarOk js') := by
  have hd := r9_at
  generalize r9 = d at hd ⊢
  injection hd with hd
  subst hd
  refine fnJ (ns := []) (by walk_at "b1") rfl (by decide) (by rintro (h | h); exact h rfl; cases h) rfl ?_
  show ExL G 1 _ _ [(jarN, Val.own js)] _
  dsimp only
  refine exL_step (P := fun V₁ => ∃ (c : Int) (js' : List D), 1 ≤ c ∧ c ≤ 3 ∧ JarOk js' ∧ Sub [(jarN, Val.own js'), (sN "lengths", Val.own [.int 0]), (sN "groups", Val.own [.int 0]), (sN "cuts", Val.d (.int c))] V₁)
    (ex_tup_swap (xs := [sN "lengths", sN "groups", sN "cuts"]) rfl (by walk_at "sts") (by walk_at "sw") ?_) ?_
  · refine ⟨rfl, ev_list ⟨rfl, ?_⟩⟩
    walk_at "EE"
    refine ⟨Nat.le_of_ble_eq_true rfl, rfl, ev_list ⟨rfl, ?_⟩⟩
    walk_at "EE"
    refine ⟨Nat.le_of_ble_eq_true rfl, rfl, ?_⟩
    walk_at "EE"
    walk_at "T"
    refine ⟨_, rfl, (w_take hG hj (many := 3) (by decide) (by decide)).use (Nat.le_refl _) fun r js' hr1 => ?_⟩
    obtain ⟨d, hr, d0, d1, hj'⟩ := hr1
    subst hr
    walk_at "EE"
    exact ⟨⟨rfl, Nat.le_of_ble_eq_true rfl⟩, rfl, 1 + d, js', by lia, by lia, hj', by walk_at "S"⟩
  rintro V₁ ⟨c, js1, c1, c2, hj1, hs⟩
  refine ExL.sub ?_ hs
  refine exL_step (P := fun V₁ => ∃ (l g : List Int) (js' : List D), (3 ≤ l.length ∧ l.length ≤ 9 ∧ g.length = l.length) ∧ (∀ x ∈ l, 1 ≤ x ∧ x ≤ 8) ∧ (∀ x ∈ g, 0 ≤ x ∧ x ≤ 3) ∧ JarOk js' ∧ Sub [(jarN, Val.own js'), (sN "lengths", Val.own (l.map D.int)), (sN "groups", Val.own (g.map D.int))] V₁)
    (ex_forJ (fun (st : List Int × List Int × List D) => [(jarN, Val.own st.2.2), (sN "lengths", Val.own (st.1.map D.int)), (sN "groups", Val.own (st.2.1.map D.int)), (sN "cuts", Val.d (.int c))])
      (fun items i st => (∃ N : Nat, 2 ≤ N ∧ N ≤ 8 ∧ items = (rangeI 0 1 N).map D.int) ∧ st.1.length = i + 1 ∧ st.2.1.length = i + 1 ∧ (∀ x ∈ st.1, (1 ≤ i → 1 ≤ x) ∧ 0 ≤ x ∧ x ≤ i) ∧ (∀ x ∈ st.2.1, 0 ≤ x ∧ x ≤ 3) ∧ JarOk st.2.2) (by walk_at "st") (it_range1 (by exact rfl) ?_)) ?_
  · walk_at "EE"
    walk_at "T"
    refine ⟨_, rfl, (w_take hG hj1 (many := 5) (by decide) (by decide)).use (Nat.le_refl _) fun r js' hr2 => ?_⟩
    obtain ⟨d, hr, d0, d1, hj'⟩ := hr2
    subst hr
    walk_at "EE"
    refine ⟨_, ⟨rfl, by lia, by lia⟩, ([0], [0], js'), by walk_at "S", ⟨⟨(c + 1 + d).toNat, by lia, by lia, rfl⟩, rfl, rfl, by simp, by simp, hj'⟩, fun i d st hd hI => ?_, fun st hI => ⟨rfl, ?_⟩⟩
    · obtain ⟨l, g, js2⟩ := st
      obtain ⟨⟨N, N1, N2, hN⟩, hl, hg, hl2, hg2, hj2⟩ := hI
      dsimp only at hl hg hl2 hg2 hj2
      rw [hN] at hd
      obtain ⟨k, hk, rfl⟩ := mapGet hd
      obtain ⟨hk1, hk2⟩ := rangeI_get hk
      refine ⟨_, rfl, ?_⟩
      show ExL G 1 _ _ [(jarN, Val.own js2), (sN "lengths", Val.own (l.map D.int)), (sN "groups", Val.own (g.map D.int)), (sN "cuts", Val.d (.int c)), (sN "turn", Val.d (.int k))] _
      refine exL_frz (y := sN "lengths") (by rfl) (exL_frz (y := sN "groups") (by rfl) ?_)
      show ExL G 1 _ _ [(jarN, Val.own js2), (sN "lengths", Val.d (LI l)), (sN "groups", Val.d (LI g)), (sN "cuts", Val.d (.int c)), (sN "turn", Val.d (.int k))] _
      refine exL_step (P := fun V₁ => ∃ (s : Nat) (js' : List D), s < l.length ∧ JarOk js' ∧ Sub [(jarN, Val.own js'), (sN "lengths", Val.d (LI l)), (sN "groups", Val.d (LI g)), (sN "cuts", Val.d (.int c)), (sN "turn", Val.d (.int k)), (sN "spot", Val.d (.int s))] V₁) (ex_assign (by walk_at "st") rfl ?_) ?_
      · walk_at "T"
        refine ⟨_, ⟨rfl, by rw [List.length_map]; lia⟩, ?_⟩
        refine ⟨_, rfl, (w_take hG hj2 (many := ((l.map D.int).length : Int)) (by rw [List.length_map]; lia) (by rw [List.length_map]; lia)).use (Nat.le_refl _) fun r js' hr3 => ?_⟩
        obtain ⟨d, hr, d0, d1, hj'⟩ := hr3
        subst hr
        rw [List.length_map] at d1
        refine ⟨rfl, d.toNat, js', by lia, hj', ?_⟩
        have e : d = (d.toNat : Int) := by lia
        generalize d.toNat = dn at e
        subst e
        walk_at "S"
      rintro V₁ ⟨s, js3, s1, hj3, hs⟩
      refine ExL.sub ?_ hs
      have hsl : l[s]? = some l[s] := List.getElem?_eq_getElem s1
      have hsg : g[s]? = some g[s] := List.getElem?_eq_getElem (by lia)
      have hgs := hg2 _ (List.getElem_mem (l := g) (n := s) (by lia))
      have hls := hl2 _ (List.getElem_mem (l := l) (n := s) s1)
      refine exL_step (P := fun V₁ => ∃ o : Int, 0 ≤ o ∧ o ≤ 3 ∧ Sub [(jarN, Val.own js3), (sN "lengths", Val.d (LI l)), (sN "groups", Val.d (LI g)), (sN "cuts", Val.d (.int c)), (sN "spot", Val.d (.int s)), (sN "own", Val.d (.int o))] V₁) (ex_assign (by walk_at "st") rfl ?_) ?_
      · walk_at "EE"
        refine ⟨fun hc => ?_, fun hc => ?_⟩
        · have hc := of_decide_eq_true hc
          walk_at "EE"
          exact ⟨rfl, k + 1, by lia, by lia, by walk_at "S"⟩
        · walk_at "EE"
          refine ⟨.int g[s], ⟨by lia, by lia, by rw [List.getElem?_map]; simp [hsg]⟩, rfl, g[s], hgs.1, hgs.2, by walk_at "S"⟩
      rintro V₁ ⟨o, o1, o2, hs⟩
      refine ExL.sub ?_ hs
      refine exL_to [(jarN, Val.own js3), (sN "groups", Val.d (LI g)), (sN "cuts", Val.d (.int c)), (sN "spot", Val.d (.int s)), (sN "own", Val.d (.int o)), (sN "lengths", Val.own ((l.take s ++ [l[s] + 1, l[s] + 1] ++ l.drop (s + 1)).map D.int))] (ex_assign (by walk_at "st") rfl ?_) ?_
      · walk_at "EE"
        refine ⟨_, _, ⟨rfl, rfl, by rw [List.length_map]; lia⟩, ?_⟩
        walk_at "EE"
        refine ⟨.int l[s], ⟨by lia, by lia, by rw [List.getElem?_map]; simp [hsl]⟩, ?_⟩
        walk_at "EE"
        refine ⟨_, ⟨rfl, by decide, by decide⟩, ?_⟩
        rw [map_take_int]
        refine ⟨?_, ?_⟩
        · show ((l.take s).map D.int).length + (List.replicate _ _).length ≤ _
          rw [List.length_map, List.length_take, List.length_replicate]; lia
        walk_at "EE"
        refine ⟨_, _, ⟨rfl, rfl, by lia, by rw [List.length_map]; lia⟩, ?_⟩
        have e2 : ((s : Int) + 1).toNat = s + 1 := by lia
        rw [e2, ← List.map_drop]
        refine ⟨?_, rfl, ?_⟩
        · simp only [List.length_append, List.length_map, List.length_take, List.length_replicate, List.length_drop]
          show _ + 2 + _ ≤ _
          lia
        · rw [List.map_append, List.map_append]
          walk_at "S"
      refine exL_next (ex_assign (by walk_at "st") rfl ?_)
      walk_at "EE"
      refine ⟨_, _, ⟨rfl, rfl, by rw [List.length_map]; lia⟩, ?_⟩
      have e3 : ((s : Int) + 1) = ((s + 1 : Nat) : Int) := by lia
      rw [e3, map_take_int]
      refine ev_list ⟨rfl, ?_⟩
      walk_at "EE"
      refine ⟨Nat.le_of_ble_eq_true rfl, ?_⟩
      refine ⟨?_, ?_⟩
      · show ((g.take (s + 1)).map D.int).length + 1 ≤ _
        rw [List.length_map, List.length_take]; lia
      walk_at "EE"
      refine ⟨_, _, ⟨rfl, rfl, by lia, by rw [List.length_map]; lia⟩, ?_⟩
      have e2 : ((s : Int) + 1).toNat = s + 1 := by lia
      rw [e2, ← List.map_drop]
      refine ⟨?_, rfl, ?_⟩
      · show ((g.take (s + 1)).map D.int ++ [D.int o]).length + _ ≤ _
        simp only [List.length_append, List.length_map, List.length_take, List.length_drop, List.length_cons, List.length_nil]
        lia
      refine exL_end ⟨(l.take s ++ [l[s] + 1, l[s] + 1] ++ l.drop (s + 1), g.take (s + 1) ++ [o] ++ g.drop (s + 1), js3), ?_, ⟨N, N1, N2, hN⟩, ?_, ?_, ?_, ?_, hj3⟩
      · dsimp only
        simp only [List.map_append]
        walk_at "S"
      · simp only [List.length_append, List.length_take, List.length_drop, List.length_cons, List.length_nil]; lia
      · simp only [List.length_append, List.length_take, List.length_drop, List.length_cons, List.length_nil]; lia
      · intro x hx
        rcases List.mem_append.mp hx with hx | hx
        · rcases List.mem_append.mp hx with hx | hx
          · have := hl2 x (List.mem_of_mem_take hx)
            by_cases h0 : i = 0
            · have : s = 0 := by lia
              subst this; simp at hx
            · lia
          · have : x = l[s] + 1 := by simpa using hx
            lia
        · have := hl2 x (List.mem_of_mem_drop hx)
          by_cases h0 : i = 0
          · have : l.drop (s + 1) = [] := List.drop_of_length_le (by lia)
            rw [this] at hx; cases hx
          · lia
      · intro x hx
        rcases List.mem_append.mp hx with hx | hx
        · rcases List.mem_append.mp hx with hx | hx
          · exact hg2 x (List.mem_of_mem_take hx)
          · have : x = o := by simpa using hx
            lia
        · exact hg2 x (List.mem_of_mem_drop hx)
    · obtain ⟨l, g, js2⟩ := st
      obtain ⟨⟨N, N1, N2, hN⟩, hl, hg, hl2, hg2, hj2⟩ := hI
      dsimp only at hl hg hl2 hg2 hj2
      have : N = (c + 1 + d).toNat := by
        have := congrArg List.length hN
        rw [List.length_map, List.length_map, rangeI_len, rangeI_len] at this
        exact this.symm
      rw [List.length_map, rangeI_len] at hl hg hl2
      refine ⟨l, g, js2, ⟨by lia, by lia, by lia⟩, fun x hx => ?_, hg2, hj2, by walk_at "S"⟩
      have := hl2 x hx
      lia
  · rintro V₁ ⟨l, g, js2, hlen, hl2, hg2, hj2, hs⟩
    refine ExL.sub ?_ hs
    refine exL_cons (ex_return (ev_tuple ⟨rfl, ev_name_frz (by rfl) ⟨rfl, ev_name_frz (by rfl) ⟨Nat.le_of_ble_eq_true rfl, _, .inl rfl, _, rfl, l, g, rfl, hlen, hl2, hg2, hj2⟩⟩⟩))
def capIn (scope : Scope) (ns : List Str) : Bool := scope.names.all fun p => p.2 != .free || ns.contains p.1
theorem capIn_mem {scope : Scope} {ns : List Str} (h : capIn scope ns = true) {x : Str} (hx : scope.names.lookup x = some .free) : x ∈ ns := by
  unfold capIn at h
  have := List.all_eq_true.mp h (x, .free) (mem_of_lookup hx)
  simpa using this
theorem testNil {G : GC} {n : Nat} {sc : Scope} {V : VM} {Q : Bool → VM → Prop} (h : Q true V) : TestQ G n sc [] V Q := h
theorem w_counts {G : GC} (hG : G.recs = recsOf PV) {js : List D} (hj : JarOk js) {l : List Int} (hl : 3 ≤ l.length ∧ l.length ≤ 9) (hlx : ∀ x ∈ l, 1 ≤ x ∧ x ≤ 8) :
    FnJ G 2 r10 js [LI l] (fun r js' => ∃ cs : List Int, r = .d (LI cs) ∧ cs.length = l.length ∧ (∀ c ∈ cs, 1 ≤ c) ∧ JarOk js') := by
  have hd := r10_at
  generalize r10 = d at hd ⊢
  injection hd with hd
  subst hd
  refine fnJ (ns := [sN "lengths"]) (by walk_at "b2") rfl (by decide) (by rintro (h | h); exact h rfl; cases h) rfl ?_
  show ExL G 1 _ _ [(jarN, Val.own js), (sN "lengths", Val.d (LI l))] _
  dsimp only
  refine exL_step (P := fun V₁ => ∃ (w : Int) (s : Nat) (js' : List D), s < l.length ∧ JarOk js' ∧ Sub [(jarN, Val.own js'), (sN "lengths", Val.d (LI l)), (sN "way", Val.d (.int w)), (sN "spot", Val.d (.int s))] V₁)
    (ex_tup_swap (xs := [sN "way", sN "spot"]) rfl (by walk_at "sts") (by walk_at "sw") ?_) ?_
  · refine ⟨rfl, ?_⟩
    walk_at "T"
    refine ⟨_, rfl, (w_take hG hj (many := 4) (by decide) (by decide)).use (Nat.le_refl _) fun r js' hr1 => ?_⟩
    obtain ⟨d, hr, d0, d1, hj'⟩ := hr1
    subst hr
    refine ⟨rfl, ?_⟩
    walk_at "T"
    refine ⟨_, ⟨rfl, by rw [List.length_map]; lia⟩, ?_⟩
    refine ⟨_, rfl, (w_take hG hj' (many := ((l.map D.int).length : Int)) (by rw [List.length_map]; lia) (by rw [List.length_map]; lia)).use (Nat.le_refl _) fun r js2 hr2 => ?_⟩
    obtain ⟨e, hr, e0, e1, hj2⟩ := hr2
    subst hr
    rw [List.length_map] at e1
    refine ⟨⟨rfl, Nat.le_of_ble_eq_true rfl⟩, rfl, d, e.toNat, js2, by lia, hj2, ?_⟩
    have e' : e = (e.toNat : Int) := by lia
    generalize e.toNat = dn at e'
    subst e'
    walk_at "S"
  rintro V₁ ⟨w, s, js1, hs, hj1, hsub⟩
  refine ExL.sub ?_ hsub
  refine exL_step (P := fun V₁ => ∃ (cs : List Int) (js' : List D), cs.length = l.length ∧ (∀ c ∈ cs, 1 ≤ c) ∧ JarOk js' ∧ Sub [(jarN, Val.own js'), (sN "way", Val.d (.int w)), (sN "spot", Val.d (.int s)), (sN "found", Val.own (cs.map D.int))] V₁) (ex_if2 ?_) ?_
  · walk_at "EE"
    refine ⟨fun hc => ?_, fun hc => ?_⟩
    · refine exL_next (ex_assign_compM (by walk_at "st") rfl (by walk_at "st") rfl (comp_J (fun (st : List D) => [(jarN, Val.own st)]) (fun items i acc st => items = l.map D.int ∧ JarOk st ∧ ∃ cs : List Int, acc = cs.map D.int ∧ cs.length = i ∧ ∀ c ∈ cs, 1 ≤ c) (it_list ?_)))
      walk_at "EE"
      refine ⟨_, ⟨rfl, by rw [List.length_map]; lia⟩, js1, by walk_at "S", ⟨rfl, hj1, [], rfl, rfl, fun _ h => nomatch h⟩, fun i d acc st hd ⟨hI, hjs, cs, hacc, hcl, hc1⟩ => ?_, fun acc st ⟨hI, hjs, cs, hacc, hcl, hc1⟩ => ⟨fun x v e hf => ?_, ?_⟩⟩
      · refine ⟨_, rfl, ?_⟩
        refine testNil (ifT ⟨fun _ => ?_, fun h => (nomatch h)⟩)
        refine EvQ.frz ?_
        walk_at "EE"
        walk_at "T"
        refine ⟨_, rfl, (w_take hG hjs (many := 9) (by decide) (by decide)).use (Nat.le_refl _) fun r js' hr3 => ?_⟩
        obtain ⟨d, hr, d0, d1, hj'⟩ := hr3
        subst hr
        walk_at "EE"
        refine ⟨js', by walk_at "S", hI, hj', cs ++ [1 + d], by rw [hacc, List.map_append]; rfl, by rw [List.length_append, hcl]; rfl, fun c hc => ?_⟩
        rcases List.mem_append.mp hc with hc | hc
        · exact hc1 c hc
        · have : c = 1 + d := by simpa using hc
          lia
      · have := capIn_mem (ns := [jarN]) (by rfl) hf
        have := List.mem_singleton.mp this
        subst this
        exact ⟨_, rfl⟩
      · refine ⟨[(jarN, Val.own st), (sN "way", Val.d (.int w)), (sN "spot", Val.d (.int s))], by walk_at "S", rfl, ?_⟩
        subst hacc
        rw [hI, List.length_map] at hcl
        exact exL_end ⟨rfl, cs, st, hcl, hc1, hjs, by walk_at "S"⟩
    · refine exL_step (P := fun V₁ => ∃ (m t : Int) (js' : List D), (∀ a ∈ l, a ≤ m) ∧ m ≤ 8 ∧ 1 ≤ t ∧ t ≤ 3 ∧ JarOk js' ∧ Sub [(jarN, Val.own js'), (sN "lengths", Val.d (LI l)), (sN "way", Val.d (.int w)), (sN "spot", Val.d (.int s)), (sN "deep", Val.d (.int m)), (sN "times", Val.d (.int t))] V₁)
        (ex_tup_plain (xs := [sN "deep", sN "times"]) rfl (by walk_at "sts") (by walk_at "sw") ?_) ?_
      · refine ⟨rfl, ?_⟩
        walk_at "EE"
        refine ⟨l, ⟨rfl, fun e => by rw [e] at hl; simp at hl⟩, fun m hm hmax => ⟨rfl, ?_⟩⟩
        walk_at "EE"
        walk_at "T"
        refine ⟨_, rfl, (w_take hG hj1 (many := 3) (by decide) (by decide)).use (Nat.le_refl _) fun r js' hr4 => ?_⟩
        obtain ⟨d, hr, d0, d1, hj'⟩ := hr4
        subst hr
        walk_at "EE"
        exact ⟨⟨rfl, Nat.le_of_ble_eq_true rfl⟩, rfl, m, 1 + d, js', hmax, (hlx m hm).2, by lia, by lia, hj', by walk_at "S"⟩
      rintro V₂ ⟨m, t, js2, hm1, hm2, t1, t2, hj2, hsub2⟩
      refine ExL.sub ?_ hsub2
      refine exL_next (ex_assign_compM (by walk_at "st") rfl (by walk_at "st") rfl (comp_m D.int (it_list ?_)))
      walk_at "EE"
      refine ⟨_, ⟨rfl, by rw [List.length_map]; lia⟩, l, fun x => .int (t * 2 ^ (m - x).toNat), rfl, fun x hx => ⟨_, rfl, ?_⟩, rfl, ?_⟩
      · have h1 := hlx x hx
        have h2 := hm1 x hx
        walk_at "EE"
        refine ⟨⟨by lia, by lia, by decide, by decide⟩, ?_⟩
        refine ⟨.inl (by lia), ?_⟩
        exact ⟨by walk_at "S", rfl⟩
      · refine exL_end ⟨rfl, l.map (fun x => t * 2 ^ (m - x).toNat), js2, List.length_map _, fun c hc => ?_, hj2, ?_⟩
        · obtain ⟨x, _, rfl⟩ := List.mem_map.mp hc
          have h3 : (1 : Int) ≤ 2 ^ (m - x).toNat := by
            have := Nat.one_le_two_pow (n := (m - x).toNat)
            exact_mod_cast this
          have := Int.mul_le_mul t1 h3 (by lia) (by lia)
          lia
        · rw [List.map_map]
          walk_at "S"
  rintro V₁ ⟨cs, js2, hcl, hc1, hj2, hsub⟩
  refine ExL.sub ?_ hsub
  refine exL_step (P := fun V₁ => ∃ (cs : List Int) (js' : List D), cs.length = l.length ∧ (∀ c ∈ cs, 1 ≤ c) ∧ JarOk js' ∧ Sub [(jarN, Val.own js'), (sN "found", Val.own (cs.map D.int))] V₁) (ex_if2 ?_) ?_
  · walk_at "EE"
    refine ⟨fun hc => ?_, fun hc => exL_end ⟨rfl, cs, js2, hcl, hc1, hj2, by walk_at "S"⟩⟩
    have hcs : cs[s]? = some cs[s] := List.getElem?_eq_getElem (by lia)
    have hcg := hc1 _ (List.getElem_mem (l := cs) (n := s) (by lia))
    refine exL_next (ex_setitem ?_)
    walk_at "EE"
    refine ⟨_, _, .int cs[s], ⟨rfl, rfl, by lia, by lia, by rw [List.getElem?_map]; simp [hcs]⟩, ?_⟩
    walk_at "EE"
    walk_at "T"
    refine ⟨_, rfl, (w_take hG hj2 (many := 30) (by decide) (by decide)).use (Nat.le_refl _) fun r js' hr5 => ?_⟩
    obtain ⟨d, hr, d0, d1, hj'⟩ := hr5
    subst hr
    walk_at "EE"
    refine ⟨⟨_, rfl⟩, ?_⟩
    walk_at "EE"
    refine ⟨_, _, ⟨rfl, rfl, by lia, by lia, by rw [List.length_map]; lia⟩, rfl, ?_⟩
    refine exL_end ⟨rfl, cs.set s (cs[s] + 1 + d), js', by rw [List.length_set]; exact hcl, fun c hc => ?_, hj', ?_⟩
    · rcases List.mem_or_eq_of_mem_set hc with hc | hc
      · exact hc1 c hc
      · lia
    · rw [List.map_set]
      have e : ((s : Int)).toNat = s := by lia
      rw [e]
      walk_at "S"
  rintro V₁ ⟨cs, js3, hcl, hc1, hj3, hsub⟩
  refine ExL.sub ?_ hsub
  exact exL_cons (ex_return (ev_name_frz (by rfl) ⟨_, .inl rfl, _, rfl, cs, rfl, hcl, hc1, hj3⟩))
theorem w_parted {G : GC} (hG : G.recs = recsOf PV) {js : List D} (hj : JarOk js) {g : List Int} (hl : 3 ≤ g.length ∧ g.length ≤ 9) (hg : ∀ x ∈ g, 0 ≤ x ∧ x < 9) :
    FnJ G 2 r11 js [LI g] (fun r js' => ∃ gs : List Int, (r = .d (LI gs) ∨ r = .new (gs.map D.int)) ∧ gs.length = g.length ∧ (∀ c ∈ gs, 0 ≤ c ∧ c < 9) ∧ JarOk js') := by
  have hd := r11_at
  generalize r11 = d at hd ⊢
  injection hd with hd
  subst hd
  refine fnJ (ns := [sN "groups"]) (by walk_at "b2") rfl (by decide) (by rintro (h | h); exact h rfl; cases h) rfl ?_
  show ExL G 1 _ _ [(jarN, Val.own js), (sN "groups", Val.d (LI g))] _
  dsimp only
  refine exL_step (P := fun V₁ => ∃ (k : Int) (js' : List D), JarOk js' ∧ Sub [(jarN, Val.own js'), (sN "groups", Val.d (LI g)), (sN "kind", Val.d (.int k)), (sN "found", Val.own (g.map D.int))] V₁)
    (ex_tup_swap (xs := [sN "kind", sN "found"]) rfl (by walk_at "sts") (by walk_at "sw") ?_) ?_
  · refine ⟨rfl, ?_⟩
    walk_at "T"
    refine ⟨_, rfl, (w_take hG hj (many := 4) (by decide) (by decide)).use (Nat.le_refl _) fun r js' hr1 => ?_⟩
    obtain ⟨d, hr, d0, d1, hj'⟩ := hr1
    subst hr
    refine ⟨rfl, ?_⟩
    walk_at "EE"
    refine ⟨_, ⟨rfl, by rw [List.length_map]; lia⟩, ⟨rfl, Nat.le_of_ble_eq_true rfl⟩, rfl, d, js', hj', by walk_at "S"⟩
  rintro V₁ ⟨k, js1, hj1, hsub⟩
  refine ExL.sub ?_ hsub
  refine exL_ifR ?_
  walk_at "EE"
  refine ⟨fun hc => ?_, fun hc => ?_⟩
  · refine exL_step (P := fun V₁ => ∃ (w : Int) (js' : List D), 1 ≤ w ∧ w ≤ 9 ∧ JarOk js' ∧ Sub [(jarN, Val.own js'), (sN "groups", Val.d (LI g)), (sN "wide", Val.d (.int w))] V₁) (ex_assign (by walk_at "st") rfl ?_) ?_
    · walk_at "EE"
      walk_at "T"
      refine ⟨_, ⟨rfl, by rw [List.length_map]; lia⟩, ?_⟩
      refine ⟨_, rfl, (w_take hG hj1 (many := ((g.map D.int).length : Int)) (by rw [List.length_map]; lia) (by rw [List.length_map]; lia)).use (Nat.le_refl _) fun r js' hr2 => ?_⟩
      obtain ⟨d, hr, d0, d1, hj'⟩ := hr2
      subst hr
      rw [List.length_map] at d1
      walk_at "EE"
      exact ⟨rfl, 1 + d, js', by lia, by lia, hj', by walk_at "S"⟩
    rintro V₂ ⟨w, js2, w1, w2, hj2, hsub2⟩
    refine ExL.sub ?_ hsub2
    refine exL_cons (ex_return (ev_compM rfl (by walk_at "st") rfl (comp_J (fun (st : List D) => [(jarN, Val.own st), (sN "wide", Val.d (.int w))]) (fun items i acc st => items = g.map D.int ∧ JarOk st ∧ ∃ cs : List Int, acc = cs.map D.int ∧ cs.length = i ∧ ∀ c ∈ cs, 0 ≤ c ∧ c < 9) (it_list ?_))))
    walk_at "EE"
    refine ⟨_, ⟨rfl, by rw [List.length_map]; lia⟩, js2, by walk_at "S", ⟨rfl, hj2, [], rfl, rfl, fun _ h => nomatch h⟩, fun i d acc st hd ⟨hI, hjs, cs, hacc, hcl, hc1⟩ => ?_, fun acc st ⟨hI, hjs, cs, hacc, hcl, hc1⟩ => ⟨fun x v e hf => ?_, ?_⟩⟩
    · refine ⟨_, rfl, ?_⟩
      refine testNil (ifT ⟨fun _ => ?_, fun h => (nomatch h)⟩)
      refine EvQ.frz ?_
      walk_at "T"
      refine ⟨_, rfl, (w_take hG hjs (many := w) (by lia) (by lia)).use (Nat.le_refl _) fun r js' hr3 => ?_⟩
      obtain ⟨d, hr, d0, d1, hj'⟩ := hr3
      subst hr
      refine ⟨js', by walk_at "S", hI, hj', cs ++ [d], by rw [hacc, List.map_append]; rfl, by rw [List.length_append, hcl]; rfl, fun c hc => ?_⟩
      rcases List.mem_append.mp hc with hc | hc
      · exact hc1 c hc
      · have : c = d := by simpa using hc
        lia
    · have := capIn_mem (ns := [jarN, sN "wide"]) (by rfl) hf
      rcases List.mem_cons.mp this with h | h
      · subst h; exact ⟨_, rfl⟩
      · have := List.mem_singleton.mp h
        subst this; exact ⟨_, rfl⟩
    · subst hacc
      rw [hI, List.length_map] at hcl
      exact ⟨[(jarN, Val.own st)], by walk_at "S", _, rfl, _, .inl rfl, st, rfl, cs, .inr rfl, hcl, hc1, hjs⟩
  refine exL_step (P := fun V₁ => ∃ (a b : Nat) (js' : List D), a < g.length ∧ b < g.length ∧ JarOk js' ∧ Sub [(jarN, Val.own js'), (sN "groups", Val.d (LI g)), (sN "kind", Val.d (.int k)), (sN "found", Val.own (g.map D.int)), (sN "one", Val.d (.int a)), (sN "other", Val.d (.int b))] V₁)
    (ex_tup_swap (xs := [sN "one", sN "other"]) rfl (by walk_at "sts") (by walk_at "sw") ?_) ?_
  · refine ⟨rfl, ?_⟩
    walk_at "T"
    refine ⟨_, ⟨rfl, by rw [List.length_map]; lia⟩, ?_⟩
    refine ⟨_, rfl, (w_take hG hj1 (many := ((g.map D.int).length : Int)) (by rw [List.length_map]; lia) (by rw [List.length_map]; lia)).use (Nat.le_refl _) fun r js2 hr4 => ?_⟩
    obtain ⟨d, hr, d0, d1, hj2⟩ := hr4
    subst hr
    refine ⟨rfl, ?_⟩
    walk_at "T"
    refine ⟨_, ⟨rfl, by rw [List.length_map]; lia⟩, ?_⟩
    refine ⟨_, rfl, (w_take hG hj2 (many := ((g.map D.int).length : Int)) (by rw [List.length_map]; lia) (by rw [List.length_map]; lia)).use (Nat.le_refl _) fun r js3 hr5 => ?_⟩
    obtain ⟨e, hr, e0, e1, hj3⟩ := hr5
    subst hr
    rw [List.length_map] at d1 e1
    refine ⟨⟨rfl, Nat.le_of_ble_eq_true rfl⟩, rfl, d.toNat, e.toNat, js3, by lia, by lia, hj3, ?_⟩
    have e' : e = (e.toNat : Int) := by lia
    have d' : d = (d.toNat : Int) := by lia
    generalize e.toNat = en at e'
    generalize d.toNat = dn at d'
    subst e' d'
    walk_at "S"
  rintro V₂ ⟨a, b, js2, ha, hb, hj2, hsub2⟩
  refine ExL.sub ?_ hsub2
  have hga := hg _ (List.getElem_mem (l := g) (n := a) ha)
  have hgb := hg _ (List.getElem_mem (l := g) (n := b) hb)
  have hsa : g[a]? = some g[a] := List.getElem?_eq_getElem ha
  have hsb : g[b]? = some g[b] := List.getElem?_eq_getElem hb
  refine exL_step (P := fun V₁ => ∃ (fs : List Int), fs.length = g.length ∧ (∀ c ∈ fs, 0 ≤ c ∧ c < 9) ∧ Sub [(jarN, Val.own js2), (sN "groups", Val.d (LI g)), (sN "kind", Val.d (.int k)), (sN "found", Val.own (fs.map D.int)), (sN "one", Val.d (.int a)), (sN "other", Val.d (.int b))] V₁) (ex_if2 ?_) ?_
  · walk_at "EE"
    refine ⟨fun hc => ?_, fun hc => exL_end ⟨rfl, g, rfl, hg, by walk_at "S"⟩⟩
    refine exL_next (ex_setitem ?_)
    walk_at "EE"
    refine ⟨.int g[b], ⟨by lia, by lia, by rw [List.getElem?_map]; simp [hsb]⟩, ⟨_, rfl⟩, ?_⟩
    walk_at "EE"
    refine ⟨_, _, ⟨rfl, rfl, by lia, by lia, by rw [List.length_map]; lia⟩, rfl, ?_⟩
    refine exL_end ⟨rfl, g.set a g[b], List.length_set, fun c hc => ?_, ?_⟩
    · rcases List.mem_or_eq_of_mem_set hc with hc | hc
      · exact hg c hc
      · lia
    · have e : ((a : Int)).toNat = a := by lia
      rw [List.map_set, e]
      walk_at "S"
  rintro V₃ ⟨fs, hfl, hf, hsub3⟩
  refine ExL.sub ?_ hsub3
  refine exL_step (P := fun V₁ => ∃ (fs : List Int), fs.length = g.length ∧ (∀ c ∈ fs, 0 ≤ c ∧ c < 9) ∧ Sub [(jarN, Val.own js2), (sN "found", Val.own (fs.map D.int))] V₁) (ex_if2 ?_) ?_
  · walk_at "EE"
    refine ⟨fun hc => ?_, fun hc => exL_end ⟨rfl, fs, hfl, hf, by walk_at "S"⟩⟩
    refine exL_next (ex_setitem ?_)
    walk_at "EE"
    refine ⟨.int g[a], ⟨by lia, by lia, by rw [List.getElem?_map]; simp [hsa]⟩, ⟨_, rfl⟩, ?_⟩
    walk_at "EE"
    refine ⟨_, _, ⟨rfl, rfl, by lia, by lia, by rw [List.length_map]; lia⟩, rfl, ?_⟩
    refine exL_end ⟨rfl, fs.set b g[a], by rw [List.length_set]; exact hfl, fun c hc => ?_, ?_⟩
    · rcases List.mem_or_eq_of_mem_set hc with hc | hc
      · exact hf c hc
      · lia
    · have e : ((b : Int)).toNat = b := by lia
      rw [List.map_set, e]
      walk_at "S"
  rintro V₄ ⟨fs, hfl, hf, hsub4⟩
  refine ExL.sub ?_ hsub4
  exact exL_cons (ex_return (ev_name_frz (by rfl) ⟨_, .inl rfl, _, rfl, fs, .inl rfl, hfl, hf, hj2⟩))
theorem w_pair {G : GC} (hG : G.recs = recsOf PV) {js : List D} (hj : JarOk js) {cs : List Int} (hl : 3 ≤ cs.length ∧ cs.length ≤ 9) :
    FnJ G 2 r12 js [LI cs] (fun r js' => ∃ gs : List Int, r = .d (LI gs) ∧ gs.length = cs.length ∧ (∀ c ∈ gs, 0 ≤ c ∧ c < 9) ∧ JarOk js') := by
  have hd := r12_at
  generalize r12 = d at hd ⊢
  injection hd with hd
  subst hd
  refine fnJ (ns := [sN "counts"]) (by walk_at "b2") rfl (by decide) (by rintro (h | h); exact h rfl; cases h) rfl ?_
  show ExL G 1 _ _ [(jarN, Val.own js), (sN "counts", Val.d (LI cs))] _
  dsimp only
  refine exL_step (P := fun V₁ => ∃ qs : List (Int × Int), qs.length = cs.length ∧ (∀ p ∈ qs, 0 ≤ p.2 ∧ p.2 < cs.length) ∧ Sub [(jarN, Val.own js), (sN "counts", Val.d (LI cs)), (sN "order", Val.own (qs.map pairD))] V₁)
    (ex_assign (by walk_at "st") rfl (ev_sortedT (by exact rfl) (ev_compM rfl ⟨[sN "symbol", sN "count"], rfl, by walk_at "sts"⟩ rfl (comp_m enT (it_enum (by exact rfl) ?_))))) ?_
  · walk_at "EE"
    refine ⟨_, ⟨rfl, by rw [List.length_map]; lia⟩, cs.zipIdx, fun p => pairD (p.1, (p.2 : Int)), enumI_ints, fun p hp => ⟨_, rfl, ?_⟩, ?_⟩
    · refine ev_tuple ⟨rfl, ?_⟩
      walk_at "EE"
      refine ⟨rfl, ?_⟩
      walk_at "EE"
      exact ⟨Nat.le_of_ble_eq_true rfl, by walk_at "S", rfl⟩
    refine ⟨cs.zipIdx.map (fun p => (p.1, (p.2 : Int))), ⟨by rw [List.map_map]; rfl, by rw [List.length_map, List.length_zipIdx]; lia, by rw [List.length_map, List.length_zipIdx]; lia, ?_⟩, fun qs hp hs => ⟨rfl, qs, by rw [hp.length_eq, List.length_map, List.length_zipIdx], fun p hpq => ?_, ?_⟩⟩
    · have h : (cs.zipIdx.map fun p => (p.2 : Nat)).Nodup := by
        rw [List.zipIdx_map_snd]
        exact List.nodup_range'
      have h2 := List.pairwise_map.mp h
      exact List.pairwise_map.mpr (h2.imp fun hne e => hne (by have := (Prod.mk.inj e).2; lia))
    · obtain ⟨a, ha, rfl⟩ := List.mem_map.mp (hp.mem_iff.mp hpq)
      obtain ⟨i, hi⟩ := List.getElem?_of_mem ha
      obtain ⟨h3, h4⟩ := zipIdx_get hi
      have := (List.getElem?_eq_some_iff.mp h3).1
      dsimp only
      lia
    · walk_at "S"
  rintro V₁ ⟨qs, hql, hq, hsub⟩
  refine ExL.sub ?_ hsub
  refine exL_frz (y := sN "order") (by rfl) ?_
  show ExL G 1 _ _ [(jarN, Val.own js), (sN "counts", Val.d (LI cs)), (sN "order", Val.d (.list (qs.map pairD)))] _
  refine exL_step (P := fun V₁ => ∃ (a : Nat) (js' : List D), a < cs.length ∧ JarOk js' ∧ Sub [(jarN, Val.own js'), (sN "counts", Val.d (LI cs)), (sN "order", Val.d (.list (qs.map pairD))), (sN "one", Val.d (.int a))] V₁) (ex_assign (by walk_at "st") rfl ?_) ?_
  · walk_at "EE"
    walk_at "T"
    refine ⟨_, rfl, (w_take hG hj (many := 2) (by decide) (by decide)).use (Nat.le_refl _) fun r js2 hr1 => ?_⟩
    obtain ⟨d, hr, d0, d1, hj2⟩ := hr1
    subst hr
    walk_at "EE"
    refine ⟨fun hc => ?_, fun hc => ?_⟩
    · walk_at "T"
      refine ⟨_, ⟨rfl, by rw [List.length_map]; lia⟩, ?_⟩
      refine ⟨_, rfl, (w_take hG hj2 (many := ((cs.map D.int).length : Int)) (by rw [List.length_map]; lia) (by rw [List.length_map]; lia)).use (Nat.le_refl _) fun r js3 hr2 => ?_⟩
      obtain ⟨e, hr, e0, e1, hj3⟩ := hr2
      subst hr
      rw [List.length_map] at e1
      refine ⟨rfl, e.toNat, js3, by lia, hj3, ?_⟩
      have e' : e = (e.toNat : Int) := by lia
      generalize e.toNat = en at e'
      subst e'
      walk_at "S"
    · walk_at "EE"
      exact ⟨rfl, 0, js2, by lia, hj2, by walk_at "S"⟩
  rintro V₂ ⟨a, js2, ha, hj2, hsub⟩
  refine ExL.sub ?_ hsub
  refine exL_step (P := fun V₁ => ∃ (o : Nat) (js' : List D), JarOk js' ∧ Sub [(jarN, Val.own js'), (sN "counts", Val.d (LI cs)), (sN "order", Val.d (.list (qs.map pairD))), (sN "one", Val.d (.int a)), (sN "other", Val.d (.int o))] V₁) (ex_assign (by walk_at "st") rfl ?_) ?_
  · walk_at "EE"
    walk_at "T"
    refine ⟨_, rfl, (w_take hG hj2 (many := 2) (by decide) (by decide)).use (Nat.le_refl _) fun r js3 hr3 => ?_⟩
    obtain ⟨d, hr, d0, d1, hj3⟩ := hr3
    subst hr
    walk_at "EE"
    refine ⟨fun hc => ?_, fun hc => ?_⟩
    · walk_at "T"
      refine ⟨_, ⟨rfl, by rw [List.length_map]; lia⟩, ?_⟩
      walk_at "EE"
      rw [List.length_map]
      refine ⟨_, rfl, (w_take hG hj3 (many := (cs.length : Int) - 1) (by lia) (by lia)).use (Nat.le_refl _) fun r js4 hr4 => ?_⟩
      obtain ⟨e, hr, e0, e1, hj4⟩ := hr4
      subst hr
      walk_at "EE"
      refine ⟨rfl, a + 1 + e.toNat, js4, hj4, ?_⟩
      have e' : e = (e.toNat : Int) := by lia
      generalize e.toNat = en at e'
      subst e'
      have e2 : ((a + 1 + en : Nat) : Int) = (a : Int) + 1 + en := by lia
      rw [e2]
      walk_at "S"
    · walk_at "EE"
      refine ⟨rfl, a + 1, js3, hj3, ?_⟩
      have e2 : ((a + 1 : Nat) : Int) = (a : Int) + 1 + 0 := by lia
      rw [e2]
      walk_at "S"
  rintro V₂ ⟨o, js3, hj3, hsub⟩
  refine ExL.sub ?_ hsub
  refine exL_next (ex_assign_compM (by walk_at "st") rfl ⟨[sN "symbol", sN "count"], rfl, by walk_at "sts"⟩ rfl (comp_m enT (it_enum (by exact rfl) ?_)))
  walk_at "EE"
  refine ⟨_, ⟨rfl, by rw [List.length_map]; lia⟩, cs.zipIdx, fun p => .int p.2, enumI_ints, fun p hp => ⟨_, rfl, ?_⟩, rfl, ?_⟩
  · walk_at "EE"
    exact ⟨by walk_at "S", rfl⟩
  have ef : (cs.zipIdx.map fun p => D.int (p.2 : Int)) = ((List.range cs.length).map fun (i : Nat) => (i : Int)).map D.int := by
    rw [List.map_map]
    have : (cs.zipIdx.map fun p => D.int (p.2 : Int)) = (cs.zipIdx.map (·.2)).map fun i : Nat => D.int (i : Int) := by rw [List.map_map]; rfl
    rw [this, List.zipIdx_map_snd, List.range_eq_range']
    rfl
  rw [ef]
  generalize hfs : ((List.range cs.length).map fun (i : Nat) => (i : Int)) = fs
  have hfl : fs.length = cs.length := by rw [← hfs]; simp
  have hf : ∀ c ∈ fs, 0 ≤ c ∧ c < 9 := fun c hc => by
    rw [← hfs] at hc
    obtain ⟨i, hi, rfl⟩ := List.mem_map.mp hc
    have := List.mem_range.mp hi
    lia
  have hq2 : ∀ i (hi : i < cs.length), ∃ p, qs[i]? = some p ∧ 0 ≤ p.2 ∧ p.2 < cs.length := fun i hi => ⟨qs[i], List.getElem?_eq_getElem (by lia), hq _ (List.getElem_mem _)⟩
  obtain ⟨p, hp, p0, p1⟩ := hq2 a ha
  have hom : ((o : Int).fmod cs.length).toNat < cs.length ∧ 0 ≤ (o : Int).fmod cs.length := by
    have h1 := Int.fmod_nonneg_of_pos (o : Int) (b := (cs.length : Int)) (by lia)
    have h2 := Int.fmod_lt_of_pos (o : Int) (b := (cs.length : Int)) (by lia)
    lia
  obtain ⟨q, hqq, q0, q1⟩ := hq2 _ hom.1
  refine exL_next (ex_setitem ?_)
  walk_at "EE"
  refine ⟨_, ⟨rfl, by rw [List.length_map]; lia⟩, ?_⟩
  rw [List.length_map]
  refine ⟨by lia, ?_⟩
  refine ⟨pairD q, ⟨hom.2, by lia, by rw [List.getElem?_map, hqq]; rfl⟩, ?_⟩
  walk_at "EE"
  refine ⟨.int q.2, ⟨by decide, by decide, rfl⟩, ⟨_, rfl⟩, ?_⟩
  walk_at "EE"
  refine ⟨pairD p, ⟨by lia, by lia, by rw [List.getElem?_map]; show (qs[a]?).map _ = _; rw [hp]; rfl⟩, ?_⟩
  walk_at "EE"
  refine ⟨.int p.2, ⟨by decide, by decide, rfl⟩, ?_⟩
  refine ⟨_, _, ⟨rfl, rfl, p0, by lia, by rw [List.length_map]; lia⟩, rfl, ?_⟩
  refine exL_cons (ex_return (ev_name_frz (by rfl) ⟨_, .inl rfl, _, rfl, fs.set p.2.toNat q.2, by show R.d (D.list ((fs.map D.int).set p.2.toNat (D.int q.2))) = R.d (D.list ((fs.set p.2.toNat q.2).map D.int)); rw [List.map_set], by rw [List.length_set]; exact hfl, fun c hc => ?_, hj3⟩))
  rcases List.mem_or_eq_of_mem_set hc with hc | hc
  · exact hf c hc
  · lia
theorem posL_filter (cs : List Int) : (posL cs).length = (cs.filter fun c => decide (0 < c)).length := by
  unfold posL
  rw [List.length_map]
  have : ∀ (k : Nat), ((cs.zipIdx k).filter fun p => decide (0 < p.1)).length = (cs.filter fun c => decide (0 < c)).length := by
    induction cs with
    | nil => intro k; rfl
    | cons c cs ih =>
      intro k
      rw [List.zipIdx_cons, List.filter_cons, List.filter_cons]
      by_cases h : 0 < c
      · simp only [h, decide_true, if_true, List.length_cons, ih]
      · simp only [h, decide_false, Bool.false_eq_true, if_false, ih]
  exact this 0
theorem lsR_eq {cs ls : List Int} {L : Nat} (h : lsR cs L ls) : ls = lsF cs L := by
  obtain ⟨qs, hp, hs, e⟩ := h
  rw [e, posS_uniq hp hs]; rfl
theorem w_ltotal {G : GC} (hG : G.recs = recsOf PV) (M : MF) {cs : List Int} {L : Nat} (h0 : ∀ c ∈ cs, 0 ≤ c) (hl : cs.length < 64) (hL : L ≤ 100) (hr : 2 ≤ (posL cs).length → 1 ≤ L ∧ (posL cs).length ≤ 2 ^ L) :
    FnS G 4 r14 [LI cs, .int L] (fun r => r = .d (.int (totF cs L))) := by
  have hd := r14_at
  generalize r14 = d at hd ⊢
  injection hd with hd
  subst hd
  refine fnS (by walk_at "b2") rfl ?_
  show ExL G 3 _ _ [(sN "counts", Val.d (LI cs)), (sN "longest", Val.d (.int L))] _
  dsimp only
  have hpl : (posL cs).length ≤ cs.length := posL_len cs
  refine exL_ifret ?_
  walk_at "EE"
  refine ev_compM rfl (by walk_at "st") rfl (comp_f D.int (it_list ?_))
  walk_at "EE"
  refine ⟨_, ⟨rfl, by rw [List.length_map]; lia⟩, cs, fun c => decide (0 < c), D.int, rfl, fun c hc => ⟨_, rfl, ?_⟩, ?_⟩
  · walk_at "EE"
    refine ⟨rfl, by walk_at "S", fun _ => ?_⟩
    walk_at "EE"
    exact ⟨by walk_at "S", rfl⟩
  refine ⟨_, ⟨rfl, by rw [List.length_map, ← posL_filter]; lia⟩, ?_⟩
  walk_at "EE"
  rw [List.length_map, ← posL_filter]
  refine ⟨fun hc => ?_, fun hc => ?_⟩
  · have hc := of_decide_eq_true hc
    walk_at "EE"
    refine ⟨_, .inl rfl, ?_⟩
    unfold totF
    rw [if_pos (by lia)]
  · have hc := of_decide_eq_false hc
    have h2 : 2 ≤ (posL cs).length := by lia
    obtain ⟨hL1, hL2⟩ := hr h2
    refine exL_cons (ex_return (ev_call (memR hG r1_at) r1_nm (by exact rfl) ⟨rfl, ?_⟩))
    walk_at "EE"
    refine ⟨rfl, ev_call (memR hG r6_at) r6_nm (by exact rfl) ⟨rfl, ?_⟩⟩
    walk_at "EE"
    refine ⟨rfl, ?_⟩
    walk_at "EE"
    refine (w_least hG h0 hl h2 hL1 hL hL2).use (n := 3) (Nat.le_refl _) fun r hr1 => ?_
    obtain ⟨ls, hr, hls⟩ := hr1
    subst hr
    have e := lsR_eq hls
    subst e
    obtain ⟨m1, m2⟩ := M.pos cs L h0 h2 hL1 hL2
    show FnS G 3 r1 [LI cs, LI (lsF cs L)] _
    refine (w_total hG (by lia) (by lia) fun i c hi hc => ?_).use (n := 3) (by decide) fun r hr => ?_
    · obtain ⟨l, h1, h3, h4⟩ := m2 i c hi hc
      refine ⟨l, h1, by lia, ?_⟩
      have : l.natAbs ≤ 100 := by lia
      exact Nat.lt_of_le_of_lt this (by decide)
    · subst hr
      refine ⟨_, .inl rfl, ?_⟩
      unfold totF
      rw [if_neg (by lia)]
theorem range01 (m : Nat) : rangeI 0 1 m = (List.range m).map fun (i : Nat) => (i : Int) := by
  unfold rangeI
  exact List.map_congr_left fun i _ => by lia
theorem w_halved {G : GC} (hG : G.recs = recsOf PV) {ps : List Int} {w : Int} (hl : ps.length ≤ 1000) :
    FnS G 1 r15 [LI ps, .int w] (fun r => r = .d (.bool (halvF ps w))) := by
  have hd := r15_at
  generalize r15 = d at hd ⊢
  injection hd with hd
  subst hd
  refine fnS (by walk_at "b2") rfl ?_
  show ExL G 0 _ _ [(sN "parts", Val.d (LI ps)), (sN "whole", Val.d (.int w))] _
  dsimp only
  refine exL_next (ex_assign_compM (by walk_at "st") rfl (by walk_at "st") rfl (comp_f (fun (i : Nat) => D.int i) (it_range1 (by exact rfl) ?_)))
  walk_at "EE"
  have h2k : ∀ k : Nat, k ∈ List.range 10 → (0 : Int) < 2 ^ k ∧ (2 : Int) ^ k < 2 ^ 30 := fun k hk => by
    have hk := List.mem_range.mp hk
    have h1 : (2 : Nat) ^ k < 2 ^ 30 := Nat.pow_lt_pow_right (by decide) (by lia)
    have h2 : 0 < (2 : Nat) ^ k := Nat.pow_pos (by decide)
    exact ⟨by exact_mod_cast h2, by exact_mod_cast h1⟩
  refine ⟨_, ⟨rfl, by decide, by decide⟩, List.range 10, fun k => w.fmod (2 ^ k) == 0, fun k => .int (w.fdiv (2 ^ k)), ?_, fun k hk => ⟨_, rfl, ?_⟩, rfl, ?_⟩
  · show (rangeI 0 1 10).map D.int = _
    rw [range01, List.map_map]; rfl
  · have hk' := List.mem_range.mp hk
    obtain ⟨p0, p1⟩ := h2k k hk
    have e : ((k : Int)).toNat = k := by lia
    walk_at "EE"
    refine ⟨⟨by lia, by lia, by decide, by decide⟩, ?_⟩
    rw [e]
    refine ⟨by lia, ?_⟩
    walk_at "EE"
    refine ⟨rfl, by walk_at "S", fun _ => ?_⟩
    walk_at "EE"
    refine ⟨⟨by lia, by lia, by decide, by decide⟩, ?_⟩
    rw [e]
    exact ⟨⟨p0, p1⟩, by walk_at "S", rfl⟩
  have eh : (((List.range 10).filter fun k => w.fmod (2 ^ k) == 0).map fun k => D.int (w.fdiv (2 ^ k))) = (halvesF w).map D.int := by
    unfold halvesF; rw [List.map_map]; rfl
  rw [eh]
  refine exL_frz (y := sN "halves") (by rfl) ?_
  refine exL_cons (ex_return ?_)
  walk_at "EE"
  refine ev_compM rfl (by walk_at "st") rfl (comp_f D.int (it_list ?_))
  walk_at "EE"
  refine ⟨_, ⟨rfl, by rw [List.length_map]; lia⟩, ps, fun p => decide (0 < p) && !(halvesF w).contains p, D.int, rfl, fun p hp => ⟨_, rfl, ?_⟩, ?_⟩
  · walk_at "EE"
    refine ⟨fun hc => ?_, fun hc => ⟨by dsimp only; rw [hc]; rfl, by walk_at "S", fun h => (nomatch h)⟩⟩
    walk_at "EE"
    refine ⟨_, rfl, by dsimp only; rw [hc]; rfl, by walk_at "S", fun _ => ?_⟩
    walk_at "EE"
    exact ⟨by walk_at "S", rfl⟩
  refine ev_list ⟨Nat.zero_le _, ?_⟩
  refine ⟨ps.filter fun p => decide (0 < p) && !(halvesF w).contains p, [], ⟨rfl, rfl⟩, _, .inl rfl, ?_⟩
  unfold halvF
  generalize ps.filter (fun p => decide (0 < p) && !(halvesF w).contains p) = l
  cases l with
  | nil => rfl
  | cons a l => simp
theorem cutTo_last (l : List Int) : cutTo (l.map D.int) (-1) = l.dropLast.map D.int := by
  unfold cutTo
  rw [if_neg (by decide), List.length_map]
  have e : ((- (-1 : Int))).toNat = 1 := by decide
  rw [e, ← List.map_take, List.dropLast_eq_take]
theorem w_saved {G : GC} (hG : G.recs = recsOf PV) {cs : List Int} {rows : List (List Int)} (h2 : 2 ≤ cs.length) (hl : cs.length < 64) (hr : rows.length ≤ 1000) (hrl : ∀ r ∈ rows, r.length < 64) :
    FnS G 1 r16 [LI cs, .list (rows.map LI)] (fun r => r = .d (.int (savF cs rows))) := by
  have hd := r16_at
  generalize r16 = d at hd ⊢
  injection hd with hd
  subst hd
  refine fnS (by walk_at "b2") rfl ?_
  show ExL G 0 _ _ [(sN "counts", Val.d (LI cs)), (sN "rows", Val.d (.list (rows.map LI)))] _
  dsimp only
  refine exL_to [(sN "rows", Val.d (.list (rows.map LI))), (sN "order", Val.own ((sortI cs).map D.int)), (sN "found", Val.d (.int 0))] (ex_tup_swap (xs := [sN "order", sN "found"]) rfl (by walk_at "sts") (by walk_at "sw") ?_) ?_
  · refine ⟨rfl, ev_sortedI (by exact rfl) ?_⟩
    walk_at "EE"
    refine ⟨cs, ⟨rfl, hl⟩, fun ms hp hs => ⟨rfl, ?_⟩⟩
    rw [sortI_uniq hp hs]
    walk_at "EE"
    exact ⟨⟨rfl, Nat.le_of_ble_eq_true rfl⟩, rfl, by walk_at "S"⟩
  refine exL_frz (y := sN "order") (by rfl) ?_
  have hol : (sortI cs).length = cs.length := (sortI_perm cs).length_eq
  generalize hord : sortI cs = ord at hol ⊢
  have ho0 : ord[0]? = some (ord.getD 0 0) := by rw [List.getD_eq_getElem?_getD, List.getElem?_eq_getElem (by lia)]; rfl
  have ho1 : ord[1]? = some (ord.getD 1 0) := by rw [List.getD_eq_getElem?_getD, List.getElem?_eq_getElem (by lia)]; rfl
  refine exL_next (ex_forJ (fun (st : Int) => [(sN "order", Val.d (LI ord)), (sN "found", Val.d (.int st))]) (fun items i st => items = rows.map LI ∧ st = (rows.take i).foldl (fun acc row => (sortI row).dropLast.foldl (savStep ord) acc) 0) (by walk_at "st") (it_list ?_))
  walk_at "EE"
  refine ⟨_, ⟨rfl, by rw [List.length_map]; lia⟩, 0, by walk_at "S", ⟨rfl, by simp⟩, fun i d st hd ⟨hI, hst⟩ => ?_, fun st ⟨hI, hst⟩ => ⟨rfl, ?_⟩⟩
  · obtain ⟨row, hrow, rfl⟩ := mapGet hd
    have hrl' := hrl row (List.mem_of_getElem? hrow)
    refine ⟨_, rfl, ?_⟩
    show ExL G 0 _ _ [(sN "order", Val.d (LI ord)), (sN "found", Val.d (.int st)), (sN "row", Val.d (LI row))] _
    have hml : (sortI row).length = row.length := (sortI_perm row).length_eq
    refine exL_next (ex_forJ (fun (t : Int) => [(sN "order", Val.d (LI ord)), (sN "found", Val.d (.int t))]) (fun items i t => items = (sortI row).dropLast.map D.int ∧ t = ((sortI row).dropLast.take i).foldl (savStep ord) st) (by walk_at "st") (it_list ?_))
    walk_at "EE"
    refine ev_sortedI (by exact rfl) ?_
    walk_at "EE"
    refine ⟨row, ⟨rfl, hrl'⟩, fun ms hp hs => ?_⟩
    rw [sortI_uniq hp hs]
    walk_at "EE"
    refine ⟨_, rfl, ?_⟩
    refine ⟨_, _, ⟨rfl, rfl, by rw [List.length_map]; lia⟩, _, ⟨rfl, ?_⟩, st, by walk_at "S", ⟨cutTo_last _, by simp⟩, fun i d t hd ⟨hI2, ht⟩ => ?_, fun t ⟨hI2, ht⟩ => ⟨rfl, ?_⟩⟩
    · show (cutTo ((sortI row).map D.int) (-1)).length ≤ _
      rw [cutTo_last, List.length_map, List.length_dropLast]; lia
    · rw [hI2] at hd
      obtain ⟨c, hc, rfl⟩ := mapGet hd
      refine ⟨_, rfl, ?_⟩
      show ExL G 0 _ _ [(sN "order", Val.d (LI ord)), (sN "found", Val.d (.int t)), (sN "count", Val.d (.int c))] _
      have step : ((sortI row).dropLast.take (i + 1)).foldl (savStep ord) st = savStep ord t c := by
        rw [take_succ_get hc, List.foldl_append, ← ht]; rfl
      refine exL_next (ex_if2 ?_)
      walk_at "EE"
      refine ⟨fun h0 => ?_, fun h0 => ?_⟩
      · have h0 := of_decide_eq_true h0
        refine exL_next (ex_assign (by walk_at "st") rfl ?_)
        walk_at "EE"
        refine ⟨.int (ord.getD 0 0), ⟨by decide, by decide, by rw [List.getElem?_map]; show (ord[0]?).map _ = _; rw [ho0]; rfl⟩, ?_⟩
        walk_at "EE"
        refine ⟨fun h1 => ?_, fun h1 => ?_⟩
        · walk_at "EE"
          refine ⟨.int (ord.getD 1 0), ⟨by decide, by decide, by rw [List.getElem?_map]; show (ord[1]?).map _ = _; rw [ho1]; rfl⟩, ?_⟩
          walk_at "EE"
          refine ⟨rfl, exL_end ⟨rfl, exL_end ⟨t + c + ord.getD 1 0, by walk_at "S", hI2, ?_⟩⟩⟩
          rw [step]; unfold savStep; rw [if_pos h0, if_pos h1]
        · walk_at "EE"
          refine ⟨.int (ord.getD 0 0), ⟨by decide, by decide, by rw [List.getElem?_map]; show (ord[0]?).map _ = _; rw [ho0]; rfl⟩, ?_⟩
          walk_at "EE"
          refine ⟨rfl, exL_end ⟨rfl, exL_end ⟨t + c + ord.getD 0 0, by walk_at "S", hI2, ?_⟩⟩⟩
          rw [step]; unfold savStep; rw [if_pos h0, if_neg (by rw [h1]; simp)]
      · have h0 := of_decide_eq_false h0
        refine exL_end ⟨rfl, exL_end ⟨t, by walk_at "S", hI2, ?_⟩⟩
        rw [step]; unfold savStep; rw [if_neg h0]
    · refine exL_end ⟨t, by walk_at "S", hI, ?_⟩
      rw [hI2, List.length_map, List.take_length] at ht
      rw [take_succ_get hrow, List.foldl_append, ← hst, ht]; rfl
  · refine exL_cons (ex_return ?_)
    walk_at "EE"
    refine ⟨_, .inl rfl, ?_⟩
    rw [hst, hI, List.length_map, List.take_length]
    unfold savF; rw [hord]
theorem evenI_N (m : Nat) : evenI (m : Int) = evenN m := by
  unfold evenI evenN
  rw [range01, List.filter_map, List.length_map]
  congr 2
  refine List.filter_congr fun k _ => ?_
  show decide ((2 : Int) ^ ((k : Int)).toNat < (m : Int)) = decide (2 ^ k < m)
  have e : ((k : Int)).toNat = k := by lia
  rw [e]
  have : ((2 : Int) ^ k < (m : Int)) ↔ (2 ^ k < m) := by exact_mod_cast Iff.rfl
  simp only [this]
theorem evenN_ok : ∀ m : Nat, m ≤ 9 → m ≤ 2 ^ evenN m ∧ evenN m ≤ 4 ∧ (2 ≤ m → 1 ≤ evenN m) := by decide
theorem minI_eq {l : List Int} {m : Int} (h1 : m ∈ l) (h2 : ∀ a ∈ l, m ≤ a) : m = minI l := by
  unfold minI
  have hp := sortI_perm l
  have hs := sortI_sorted l
  have hm : m ∈ sortI l := hp.mem_iff.mpr h1
  have ha : ∀ a ∈ sortI l, m ≤ a := fun a ha => h2 a (hp.mem_iff.mp ha)
  generalize sortI l = s at hs hm ha
  cases s with
  | nil => cases hm
  | cons a s =>
    show m = a
    have h3 := ha a List.mem_cons_self
    rcases List.mem_cons.mp hm with h | h
    · exact h
    · have := (List.pairwise_cons.mp hs).1 m h
      lia
def zpT (p : Int × Int) : D := .tup [.int p.1, .int p.2]
theorem zipI_ints {cs gs : List Int} : zipI (cs.map D.int) (gs.map D.int) = (cs.zip gs).map zpT := by
  unfold zipI
  rw [List.zip_map, List.map_map]
  rfl
theorem used_ne {cs gs : List Int} {N : Nat} (hn : 1 ≤ cs.length) (hgl : gs.length = cs.length) (hc : ∀ c ∈ cs, 1 ≤ c) (hg : ∀ g ∈ gs, 0 ≤ g ∧ g < N) : usedF (rowsF cs gs N) ≠ [] := by
  have h1 : cs[0]? = some cs[0] := List.getElem?_eq_getElem (by lia)
  have h2 : gs[0]? = some gs[0] := List.getElem?_eq_getElem (by lia)
  have c1 := hc _ (List.mem_of_getElem? h1)
  have g1 := hg _ (List.mem_of_getElem? h2)
  have hz : (cs[0], gs[0]) ∈ cs.zip gs := List.mem_of_getElem? (i := 0) (by rw [List.getElem?_zip_eq_some]; exact ⟨h1, h2⟩)
  have hr : ((cs.zip gs).map fun p => if p.2 == ((gs[0].toNat : Nat) : Int) then p.1 else 0) ∈ rowsF cs gs N := by
    unfold rowsF
    exact List.mem_map.mpr ⟨gs[0].toNat, List.mem_range.mpr (by lia), rfl⟩
  have hp : cs[0] ∈ partF ((cs.zip gs).map fun p => if p.2 == ((gs[0].toNat : Nat) : Int) then p.1 else 0) := by
    unfold partF
    refine List.mem_filter.mpr ⟨List.mem_map.mpr ⟨_, hz, ?_⟩, by simp; lia⟩
    dsimp only
    rw [if_pos (by simp; lia)]
  have hu : partF ((cs.zip gs).map fun p => if p.2 == ((gs[0].toNat : Nat) : Int) then p.1 else 0) ∈ usedF (rowsF cs gs N) := by
    unfold usedF
    refine List.mem_filter.mpr ⟨List.mem_map.mpr ⟨_, hr, rfl⟩, ?_⟩
    cases hh : partF ((cs.zip gs).map fun p => if p.2 == ((gs[0].toNat : Nat) : Int) then p.1 else 0) with
    | nil => rw [hh] at hp; cases hp
    | cons a l => rfl
  intro e
  rw [e] at hu
  cases hu
theorem sum_nonneg {l : List Int} (h : ∀ c ∈ l, 0 ≤ c) : 0 ≤ l.sum := by
  induction l with
  | nil => simp
  | cons a l ih =>
    rw [List.sum_cons]
    have := h a List.mem_cons_self
    have := ih fun c hc => h c (List.mem_cons_of_mem _ hc)
    lia
theorem sum_pos_iff {l : List Int} (h : ∀ c ∈ l, 0 ≤ c) : decide (0 < l.sum) = !(partF l).isEmpty := by
  induction l with
  | nil => simp [partF]
  | cons a l ih =>
    have h1 := h a List.mem_cons_self
    have h2 := ih fun c hc => h c (List.mem_cons_of_mem _ hc)
    have h3 := sum_nonneg fun c hc => h c (List.mem_cons_of_mem _ hc)
    unfold partF at h2 ⊢
    rw [List.sum_cons, List.filter_cons]
    by_cases ha : 0 < a
    · simp only [ha, decide_true, if_true, List.isEmpty_cons, Bool.not_false, decide_eq_true_eq]; lia
    · have : a = 0 := by lia
      subst this
      simp only [Int.lt_irrefl, decide_false, Bool.false_eq_true, if_false, Int.zero_add]
      exact h2
theorem posL_sums {rows : List (List Int)} (h : ∀ r ∈ rows, ∀ c ∈ r, 0 ≤ c) : (posL (rows.map List.sum)).length = (usedF rows).length := by
  rw [posL_filter]
  unfold usedF
  rw [List.filter_map, List.filter_map, List.length_map, List.length_map]
  congr 1
  exact List.filter_congr fun r hr => sum_pos_iff (h r hr)
theorem countP_or_le {α : Type} (p q : α → Bool) (l : List α) : l.countP (fun a => p a || q a) ≤ l.countP p + l.countP q := by
  induction l with
  | nil => simp
  | cons a l ih =>
    rw [List.countP_cons, List.countP_cons, List.countP_cons]
    cases p a <;> cases q a <;> simp <;> lia
theorem used_le_aux (N : Nat) : ∀ z : List (Int × Int), (List.range N).countP (fun (k : Nat) => !(partF (z.map fun p => if p.2 == (k : Int) then p.1 else 0)).isEmpty) ≤ z.length := by
  intro z
  induction z with
  | nil => simp [partF]
  | cons a z ih =>
    have h1 : (List.range N).countP (fun (k : Nat) => !(partF ((a :: z).map fun p => if p.2 == (k : Int) then p.1 else 0)).isEmpty) ≤
        (List.range N).countP (fun (k : Nat) => (k == a.2.toNat) || !(partF (z.map fun p => if p.2 == (k : Int) then p.1 else 0)).isEmpty) := by
      refine List.countP_mono_left fun k _ hk => ?_
      rw [List.map_cons] at hk
      unfold partF at hk ⊢
      rw [List.filter_cons] at hk
      by_cases hh : a.2 = (k : Int)
      · have : (k == a.2.toNat) = true := by simp; lia
        rw [this]; rfl
      · have e : (a.2 == (k : Int)) = false := by simpa using hh
        rw [e] at hk
        simp only [Bool.false_eq_true, if_false, Int.lt_irrefl, decide_false] at hk
        rw [hk]; simp
    have h2 := countP_or_le (fun k => k == a.2.toNat) (fun (k : Nat) => !(partF (z.map fun p => if p.2 == (k : Int) then p.1 else 0)).isEmpty) (List.range N)
    have h3 : (List.range N).countP (fun k => k == a.2.toNat) ≤ 1 := by
      show (List.range N).count a.2.toNat ≤ 1
      exact List.nodup_iff_count.mp List.nodup_range _
    rw [List.length_cons]
    lia
theorem used_le {cs gs : List Int} {N : Nat} (hgl : gs.length = cs.length) : (usedF (rowsF cs gs N)).length ≤ cs.length := by
  unfold usedF rowsF
  rw [List.map_map, ← List.countP_eq_length_filter, List.countP_map]
  refine Nat.le_trans (used_le_aux N (cs.zip gs)) ?_
  rw [List.length_zip]; lia
theorem w_rounds {G : GC} (hG : G.recs = recsOf PV) (M : MF) {js : List D} (hj : JarOk js) {cs gs : List Int} {most : Nat} (hn : 3 ≤ cs.length ∧ cs.length ≤ 9) (hgl : gs.length = cs.length) (hc : ∀ c ∈ cs, 1 ≤ c) (hg : ∀ g ∈ gs, 0 ≤ g ∧ g < 9)
    (hm1 : cs.length ≤ 2 ^ most) (hm2 : most ≤ 9) :
    FnJ G 6 r17 js [LI cs, LI gs, LI (lsF cs most), .int most] (fun r js' => r = .d (.bool true) ∧ JarOk js') := by
  have hd := r17_at
  generalize r17 = d at hd ⊢
  injection hd with hd
  subst hd
  refine fnJ (ns := [sN "counts", sN "groups", sN "lengths", sN "most"]) (by walk_at "b5") rfl (by decide) (by rintro (h | h); exact h rfl; cases h) rfl ?_
  show ExL G 5 _ _ [(jarN, Val.own js), (sN "counts", Val.d (LI cs)), (sN "groups", Val.d (LI gs)), (sN "lengths", Val.d (LI (lsF cs most))), (sN "most", Val.d (.int most))] _
  dsimp only
  refine exL_step (P := fun V₁ => ∃ N : Nat, N ≤ 9 ∧ (∀ g ∈ gs, 0 ≤ g ∧ g < N) ∧ Sub [(jarN, Val.own js), (sN "counts", Val.d (LI cs)), (sN "groups", Val.d (LI gs)), (sN "lengths", Val.d (LI (lsF cs most))), (sN "most", Val.d (.int most)), (sN "rows", Val.own ((rowsF cs gs N).map LI))] V₁)
    (ex_assign_compM (by walk_at "st") rfl (by walk_at "st") rfl (comp_m (fun (k : Nat) => D.int k) (it_range1 (by exact rfl) ?_))) ?_
  · walk_at "EE"
    refine ⟨gs, ⟨rfl, fun e => by rw [e] at hgl; simp at hgl; lia⟩, fun m hm hmax => ?_⟩
    have hm' := hg m hm
    walk_at "EE"
    refine ⟨_, ⟨rfl, by lia, by lia⟩, List.range (m + 1).toNat, fun k => .list (((cs.zip gs).map fun p => if p.2 == (k : Int) then p.1 else 0).map D.int), ?_, fun k hk => ⟨_, rfl, ?_⟩, rfl, (m + 1).toNat, by lia, fun g hgg => ⟨(hg g hgg).1, by have := hmax g hgg; lia⟩, ?_⟩
    · rw [range01, List.map_map]; rfl
    · refine ev_compM rfl ⟨[sN "count", sN "own"], rfl, by walk_at "sts"⟩ rfl (comp_m zpT (it_zip (by exact rfl) ?_))
      walk_at "EE"
      refine ⟨_, ⟨rfl, by rw [List.length_map]; lia⟩, ?_⟩
      walk_at "EE"
      refine ⟨_, rfl, cs.zip gs, fun p => .int (if p.2 == (k : Int) then p.1 else 0), zipI_ints, fun p hp => ⟨_, rfl, ?_⟩, ?_⟩
      · walk_at "EE"
        refine ⟨fun h => ?_, fun h => ?_⟩
        · walk_at "EE"
          exact ⟨by walk_at "S", by dsimp only; rw [if_pos h]; rfl⟩
        · walk_at "EE"
          exact ⟨by walk_at "S", by dsimp only; rw [if_neg (by rw [h]; simp)]; rfl⟩
      · refine ⟨by walk_at "S", ?_⟩
        show D.list _ = D.list _
        rw [List.map_map]; rfl
    · unfold rowsF
      rw [List.map_map]
      walk_at "S"
  rintro V₁ ⟨N, hN, hgN, hsub⟩
  refine ExL.sub (exL_frz (y := sN "rows") (by rfl) ?_) hsub
  generalize hrows : rowsF cs gs N = rows
  have hrl : rows.length = N := by rw [← hrows]; unfold rowsF; simp
  have hrow : ∀ r ∈ rows, r.length = cs.length ∧ ∀ c ∈ r, 0 ≤ c := fun r hr => by
    rw [← hrows] at hr
    unfold rowsF at hr
    obtain ⟨k, _, rfl⟩ := List.mem_map.mp hr
    refine ⟨by rw [List.length_map, List.length_zip]; lia, fun c hcc => ?_⟩
    obtain ⟨p, hp, rfl⟩ := List.mem_map.mp hcc
    have := hc p.1 (List.of_mem_zip hp).1
    split <;> lia
  have hpart : ∀ r ∈ rows, (partF r).length ≤ cs.length := fun r hr => by
    unfold partF; have := (hrow r hr).1; have := List.length_filter_le (fun c => decide (0 < c)) r; lia
  refine exL_to [(jarN, Val.own js), (sN "counts", Val.d (LI cs)), (sN "groups", Val.d (LI gs)), (sN "lengths", Val.d (LI (lsF cs most))), (sN "most", Val.d (.int most)), (sN "rows", Val.d (.list (rows.map LI))), (sN "parts", Val.own ((rows.map partF).map LI))]
    (ex_assign_compM (by walk_at "st") rfl (by walk_at "st") rfl (comp_m LI (it_list ?_))) ?_
  · walk_at "EE"
    refine ⟨_, ⟨rfl, by rw [List.length_map]; lia⟩, rows, fun r => LI (partF r), rfl, fun r hr => ⟨_, rfl, ?_⟩, rfl, ?_⟩
    · refine ev_compM rfl (by walk_at "st") rfl (comp_f D.int (it_list ?_))
      walk_at "EE"
      refine ⟨_, ⟨rfl, by rw [List.length_map]; have := (hrow r hr).1; lia⟩, r, fun c => decide (0 < c), D.int, rfl, fun c hcc => ⟨_, rfl, ?_⟩, by walk_at "S", rfl⟩
      walk_at "EE"
      refine ⟨rfl, by walk_at "S", fun _ => ?_⟩
      walk_at "EE"
      exact ⟨by walk_at "S", rfl⟩
    · rw [List.map_map]
      walk_at "S"
  refine exL_frz (y := sN "parts") (by rfl) ?_
  refine exL_to [(jarN, Val.own js), (sN "counts", Val.d (LI cs)), (sN "groups", Val.d (LI gs)), (sN "lengths", Val.d (LI (lsF cs most))), (sN "most", Val.d (.int most)), (sN "rows", Val.d (.list (rows.map LI))), (sN "sums", Val.own ((rows.map List.sum).map D.int)), (sN "used", Val.own ((usedF rows).map LI))]
    (ex_tup_swap (xs := [sN "sums", sN "used"]) rfl (by walk_at "sts") (by walk_at "sw") ?_) ?_
  · refine ⟨rfl, ev_compM rfl (by walk_at "st") rfl (comp_m LI (it_list ?_))⟩
    walk_at "EE"
    refine ⟨_, ⟨rfl, by rw [List.length_map]; lia⟩, rows, fun r => .int r.sum, rfl, fun r hr => ⟨_, rfl, ?_⟩, rfl, ?_⟩
    · walk_at "EE"
      exact ⟨r, rfl, by walk_at "S", rfl⟩
    refine ev_compM rfl (by walk_at "st") rfl (comp_f LI (it_list ?_))
    walk_at "EE"
    refine ⟨_, ⟨rfl, by rw [List.length_map, List.length_map]; lia⟩, rows.map partF, fun p => !p.isEmpty, LI, rfl, fun p hp => ⟨_, rfl, ?_⟩, ?_⟩
    · walk_at "EE"
      refine ev_list ⟨Nat.zero_le _, ?_⟩
      refine ⟨p, [], ⟨rfl, rfl⟩, ?_, by walk_at "S", fun _ => ?_⟩
      · cases p <;> simp
      · walk_at "EE"
        exact ⟨by walk_at "S", rfl⟩
    · refine ⟨⟨rfl, Nat.le_of_ble_eq_true rfl⟩, rfl, ?_⟩
      rw [List.map_map]
      unfold usedF
      walk_at "S"
  refine exL_frz (y := sN "sums") (by rfl) (exL_frz (y := sN "used") (by rfl) ?_)
  show ExL G 5 _ _ [(jarN, Val.own js), (sN "counts", Val.d (LI cs)), (sN "groups", Val.d (LI gs)), (sN "lengths", Val.d (LI (lsF cs most))), (sN "most", Val.d (.int most)), (sN "rows", Val.d (.list (rows.map LI))), (sN "sums", Val.d (LI (rows.map List.sum))), (sN "used", Val.d (.list ((usedF rows).map LI)))] _
  have hune : usedF rows ≠ [] := by rw [← hrows]; exact used_ne (by lia) hgl hc hgN
  have hul : (usedF rows).length ≤ N := by
    unfold usedF
    refine Nat.le_trans (List.length_filter_le _ _) ?_
    rw [List.length_map, hrl]; exact Nat.le_refl _
  have hupl : ∀ p ∈ usedF rows, p.length ≤ cs.length := fun p hp => by
    unfold usedF at hp
    obtain ⟨r, hr, rfl⟩ := List.mem_map.mp (List.mem_filter.mp hp).1
    exact hpart r hr
  refine exL_step (P := fun V₁ => ∃ (m inner : Nat) (js' : List D), (∀ p ∈ usedF rows, p.length ≤ m) ∧ m ≤ 9 ∧ (inner = evenN m ∨ inner = evenN m + 1) ∧ JarOk js' ∧
    Sub [(jarN, Val.own js'), (sN "counts", Val.d (LI cs)), (sN "groups", Val.d (LI gs)), (sN "lengths", Val.d (LI (lsF cs most))), (sN "most", Val.d (.int most)), (sN "rows", Val.d (.list (rows.map LI))), (sN "sums", Val.d (LI (rows.map List.sum))), (sN "used", Val.d (.list ((usedF rows).map LI))), (sN "inner", Val.d (.int inner))] V₁) (ex_assign (by walk_at "st") rfl ?_) ?_
  · walk_at "EE"
    refine ev_call (memR hG r13_at) r13_nm (by exact rfl) ⟨rfl, ?_⟩
    walk_at "EE"
    refine ev_compM rfl (by walk_at "st") rfl (comp_m LI (it_list ?_))
    walk_at "EE"
    refine ⟨_, ⟨rfl, by rw [List.length_map]; lia⟩, usedF rows, fun p => .int (p.length : Int), rfl, fun p hp => ⟨_, rfl, ?_⟩, ?_⟩
    · walk_at "EE"
      exact ⟨_, ⟨rfl, by rw [List.length_map]; have := hupl p hp; lia⟩, by walk_at "S", by rw [List.length_map]; rfl⟩
    refine ⟨(usedF rows).map fun p => (p.length : Int), ⟨by show D.list _ = D.list _; rw [List.map_map]; rfl, fun e => hune (List.map_eq_nil_iff.mp e)⟩, fun m hm hmax => ?_⟩
    obtain ⟨p, hp, rfl⟩ := List.mem_map.mp hm
    have hpl := hupl p hp
    refine (w_even hG (many := (p.length : Int))).use (n := 5) (by decide) fun r hr => ?_
    subst hr
    rw [evenI_N]
    walk_at "EE"
    walk_at "T"
    refine ⟨_, rfl, (w_take hG hj (many := 2) (by decide) (by decide)).use (n := 5) (by decide) fun r js' hr1 => ?_⟩
    obtain ⟨d, hr, d0, d1, hj'⟩ := hr1
    subst hr
    walk_at "EE"
    refine ⟨rfl, p.length, evenN p.length + d.toNat, js', fun q hq => ?_, by lia, by lia, hj', ?_⟩
    · have := hmax _ (List.mem_map.mpr ⟨q, hq, rfl⟩)
      lia
    · have e : ((evenN p.length + d.toNat : Nat) : Int) = (evenN p.length : Int) + d := by lia
      rw [e]
      walk_at "S"
  rintro V₂ ⟨m, inner, js1, hmu, hm9, hinner, hj1, hsub2⟩
  refine ExL.sub ?_ hsub2
  refine exL_step (P := fun V₁ => ∃ (outer : Nat) (js' : List D), (outer = evenN (usedF rows).length ∨ outer = evenN (usedF rows).length + 1) ∧ JarOk js' ∧
    Sub [(jarN, Val.own js'), (sN "counts", Val.d (LI cs)), (sN "groups", Val.d (LI gs)), (sN "lengths", Val.d (LI (lsF cs most))), (sN "most", Val.d (.int most)), (sN "rows", Val.d (.list (rows.map LI))), (sN "sums", Val.d (LI (rows.map List.sum))), (sN "used", Val.d (.list ((usedF rows).map LI))), (sN "inner", Val.d (.int inner)), (sN "outer", Val.d (.int outer))] V₁) (ex_assign (by walk_at "st") rfl ?_) ?_
  · walk_at "EE"
    refine ev_call (memR hG r13_at) r13_nm (by exact rfl) ⟨rfl, ?_⟩
    walk_at "EE"
    refine ⟨_, ⟨rfl, by rw [List.length_map]; lia⟩, ?_⟩
    show FnS G 5 r13 [.int (((usedF rows).map LI).length : Int)] _
    rw [List.length_map]
    refine (w_even hG (many := ((usedF rows).length : Int))).use (n := 5) (by decide) fun r hr => ?_
    subst hr
    rw [evenI_N]
    walk_at "EE"
    walk_at "T"
    refine ⟨_, rfl, (w_take hG hj1 (many := 2) (by decide) (by decide)).use (n := 5) (by decide) fun r js' hr2 => ?_⟩
    obtain ⟨d, hr, d0, d1, hj'⟩ := hr2
    subst hr
    walk_at "EE"
    refine ⟨rfl, evenN (usedF rows).length + d.toNat, js', by lia, hj', ?_⟩
    have e : ((evenN (usedF rows).length + d.toNat : Nat) : Int) = (evenN (usedF rows).length : Int) + d := by lia
    rw [e]
    walk_at "S"
  rintro V₂ ⟨outer, js2, houter, hj2, hsub2⟩
  refine ExL.sub ?_ hsub2
  have hM := M.rounds cs gs N m inner outer most hn.1 hn.2 hgl hc hgN hN (by rw [hrows]; exact hmu) hm9 hinner (by rw [hrows]; exact houter) hm1 hm2
  rw [hrows] at hM
  obtain ⟨M0, M1, M2, M3, M4⟩ := hM
  have hcs0 : ∀ c ∈ cs, 0 ≤ c := fun c h => by have := hc c h; lia
  have hin := (evenN_ok m hm9)
  have hou := (evenN_ok (usedF rows).length (by lia))
  have hi5 : inner ≤ 5 := by lia
  have ho5 : outer ≤ 5 := by lia
  have hpc := posL_len cs
  have hpr : ∀ r ∈ rows, (posL r).length ≤ cs.length ∧ (posL r).length ≤ m := fun r hr => by
    rw [posL_filter]
    refine ⟨hpart r hr, ?_⟩
    by_cases he : partF r = []
    · show (partF r).length ≤ m
      rw [he]; exact Nat.zero_le _
    · refine hmu (partF r) ?_
      unfold usedF
      refine List.mem_filter.mpr ⟨List.mem_map.mpr ⟨r, hr, rfl⟩, ?_⟩
      cases hh : partF r with
      | nil => exact absurd hh he
      | cons a l => rfl
  have hps : (posL (rows.map List.sum)).length = (usedF rows).length := posL_sums fun r hr => (hrow r hr).2
  have hs0 : ∀ c ∈ rows.map List.sum, 0 ≤ c := fun c h => by
    obtain ⟨r, hr, rfl⟩ := List.mem_map.mp h
    exact sum_nonneg (hrow r hr).2
  have pw : ∀ {a b : Nat}, a ≤ b → 2 ^ a ≤ 2 ^ b := fun h => Nat.pow_le_pow_right (by decide) h
  have hmost1 : 1 ≤ most := by
    rcases Nat.eq_zero_or_pos most with h | h
    · rw [h] at hm1; lia
    · exact h
  -- the totals
  have tC : FnS G 5 r14 [LI cs, .int ((inner + outer : Nat) : Int)] (fun r => r = .d (.int (totF cs (inner + outer)))) :=
    (w_ltotal hG M hcs0 (by lia) (by lia) fun _ => ⟨by
      rcases Nat.eq_zero_or_pos (inner + outer) with h | h
      · rw [h] at M0; lia
      · exact h, Nat.le_trans hpc M0⟩).use (n := 5) (by decide) fun r h => h
  have tR : ∀ r ∈ rows, FnS G 5 r14 [LI r, .int (inner : Int)] (fun x => x = .d (.int (totF r inner))) := fun r hr =>
    (w_ltotal hG M (hrow r hr).2 (by have := (hrow r hr).1; lia) (by lia) fun h2 => by
      have := (hpr r hr).2
      have h3 := pw (a := evenN m) (b := inner) (by lia)
      exact ⟨by lia, by lia⟩).use (n := 5) (by decide) fun r h => h
  have tS : FnS G 5 r14 [LI (rows.map List.sum), .int (outer : Int)] (fun x => x = .d (.int (totF (rows.map List.sum) outer))) :=
    (w_ltotal hG M hs0 (by rw [List.length_map]; lia) (by lia) fun h2 => by
      rw [hps] at h2 ⊢
      have h3 := pw (a := evenN (usedF rows).length) (b := outer) (by lia)
      exact ⟨by lia, by lia⟩).use (n := 5) (by decide) fun r h => h
  have tRm : ∀ r ∈ rows, FnS G 5 r14 [LI r, .int (most : Int)] (fun x => x = .d (.int (totF r most))) := fun r hr =>
    (w_ltotal hG M (hrow r hr).2 (by have := (hrow r hr).1; lia) (by lia) fun h2 => ⟨hmost1, Nat.le_trans (hpr r hr).1 hm1⟩).use (n := 5) (by decide) fun r h => h
  have tSm : FnS G 5 r14 [LI (rows.map List.sum), .int (most : Int)] (fun x => x = .d (.int (totF (rows.map List.sum) most))) :=
    (w_ltotal hG M hs0 (by rw [List.length_map]; lia) (by lia) fun h2 => by
      rw [hps]
      have h3 : (usedF rows).length ≤ cs.length := by rw [← hrows]; exact used_le hgl
      exact ⟨hmost1, by lia⟩).use (n := 5) (by decide) fun r h => h
  refine exL_ifret ?_
  walk_at "EE"
  refine ev_call (memR hG r14_at) r14_nm (by exact rfl) ⟨rfl, ?_⟩
  walk_at "EE"
  refine ⟨rfl, ?_⟩
  walk_at "EE"
  show FnS G 5 r14 [LI cs, .int ((inner : Int) + (outer : Int))] _
  have eio : ((inner : Int) + (outer : Int)) = ((inner + outer : Nat) : Int) := by lia
  rw [eio]
  refine tC.use (Nat.le_refl _) fun r hr => ?_
  subst hr
  walk_at "EE"
  refine ev_compM rfl (by walk_at "st") rfl (comp_m LI (it_list ?_))
  walk_at "EE"
  refine ⟨_, ⟨rfl, by rw [List.length_map]; lia⟩, rows, fun r => .int (totF r inner), rfl, fun r hr => ⟨_, rfl, ?_⟩, ?_⟩
  · refine ev_call (memR hG r14_at) r14_nm (by exact rfl) ⟨rfl, ?_⟩
    walk_at "EE"
    refine ⟨rfl, ?_⟩
    walk_at "EE"
    refine (tR r hr).use (Nat.le_refl _) fun x hx => ?_
    subst hx
    exact ⟨by walk_at "S", rfl⟩
  refine ⟨rows.map fun r => totF r inner, by show D.list _ = D.list _; rw [List.map_map]; rfl, ?_⟩
  refine ev_call (memR hG r14_at) r14_nm (by exact rfl) ⟨rfl, ?_⟩
  walk_at "EE"
  refine ⟨rfl, ?_⟩
  walk_at "EE"
  refine tS.use (Nat.le_refl _) fun x hx => ?_
  subst hx
  walk_at "EE"
  refine ⟨fun h => absurd (of_decide_eq_true h) (by unfold apartF at M1; lia), fun _ => ?_⟩
  have hpn : (posL cs).length = cs.length := by
    rw [posL_filter, List.filter_eq_self.mpr fun c h => by have := hc c h; simp; lia]
  obtain ⟨Lp1, Lp2⟩ := M.pos cs most hcs0 (by lia) hmost1 (by lia)
  have tOne : FnS G 5 r1 [LI cs, LI (lsF cs most)] (fun x => x = .d (.int (totI cs (lsF cs most)))) :=
    (w_total hG (by lia) (by lia) fun i c hi hcc => by
      obtain ⟨l, h1, h3, h4⟩ := Lp2 i c hi hcc
      refine ⟨l, h1, by lia, ?_⟩
      have : l.natAbs ≤ 100 := by lia
      exact Nat.lt_of_le_of_lt this (by decide)).use (n := 5) (by decide) fun r h => h
  refine exL_to [(jarN, Val.own js2), (sN "counts", Val.d (LI cs)), (sN "groups", Val.d (LI gs)), (sN "lengths", Val.d (LI (lsF cs most))), (sN "most", Val.d (.int most)), (sN "rows", Val.d (.list (rows.map LI))), (sN "sums", Val.d (LI (rows.map List.sum))), (sN "used", Val.d (.list ((usedF rows).map LI))),
    (sN "one", Val.d (.int (totI cs (lsF cs most)))), (sN "apart", Val.d (.int (apartF rows most))), (sN "top", Val.d (.int (totF (rows.map List.sum) most)))]
    (ex_tup_swap (xs := [sN "one", sN "apart", sN "top"]) rfl (by walk_at "sts") (by walk_at "sw") ?_) ?_
  · refine ⟨rfl, ev_call (memR hG r1_at) r1_nm (by exact rfl) ⟨rfl, ?_⟩⟩
    walk_at "EE"
    refine ⟨rfl, ?_⟩
    walk_at "EE"
    refine tOne.use (Nat.le_refl _) fun x hx => ?_
    subst hx
    refine ⟨rfl, ?_⟩
    walk_at "EE"
    refine ev_compM rfl (by walk_at "st") rfl (comp_m LI (it_list ?_))
    walk_at "EE"
    refine ⟨_, ⟨rfl, by rw [List.length_map]; lia⟩, rows, fun r => .int (totF r most), rfl, fun r hr => ⟨_, rfl, ?_⟩, ?_⟩
    · refine ev_call (memR hG r14_at) r14_nm (by exact rfl) ⟨rfl, ?_⟩
      walk_at "EE"
      refine ⟨rfl, ?_⟩
      walk_at "EE"
      refine (tRm r hr).use (Nat.le_refl _) fun x hx => ?_
      subst hx
      exact ⟨by walk_at "S", rfl⟩
    refine ⟨rows.map fun r => totF r most, by show D.list _ = D.list _; rw [List.map_map]; rfl, rfl, ?_⟩
    refine ev_call (memR hG r14_at) r14_nm (by exact rfl) ⟨rfl, ?_⟩
    walk_at "EE"
    refine ⟨rfl, ?_⟩
    walk_at "EE"
    refine tSm.use (Nat.le_refl _) fun x hx => ?_
    subst hx
    exact ⟨⟨rfl, Nat.le_of_ble_eq_true rfl⟩, rfl, by walk_at "S"⟩
  refine exL_ifret ?_
  walk_at "EE"
  refine ev_call (memR hG r16_at) r16_nm (by exact rfl) ⟨rfl, ?_⟩
  walk_at "EE"
  refine ⟨rfl, ?_⟩
  walk_at "EE"
  refine (w_saved hG (cs := cs) (rows := rows) (by lia) (by lia) (by lia) fun r hr => by have := (hrow r hr).1; lia).use (n := 5) (by decide) fun x hx => ?_
  subst hx
  walk_at "EE"
  refine ⟨fun h => absurd (of_decide_eq_true h) (by lia), fun _ => ?_⟩
  refine exL_ifret ?_
  refine CoQ.post (P := fun c V₂ => c = false ∧ Sub [(jarN, Val.own js2), (sN "counts", Val.d (LI cs)), (sN "groups", Val.d (LI gs)), (sN "lengths", Val.d (LI (lsF cs most))), (sN "most", Val.d (.int most)), (sN "rows", Val.d (.list (rows.map LI))), (sN "sums", Val.d (LI (rows.map List.sum))), (sN "used", Val.d (.list ((usedF rows).map LI))),
    (sN "one", Val.d (.int (totI cs (lsF cs most)))), (sN "apart", Val.d (.int (apartF rows most))), (sN "top", Val.d (.int (totF (rows.map List.sum) most)))] V₂) ?_ (fun c V₂ ⟨h1, h2⟩ => ⟨V₂, .refl _, fun h => (by rw [h1] at h; cases h), fun _ => ExL.sub ?_ h2⟩)
  · walk_at "EE"
    refine ⟨_, ⟨rfl, by rw [List.length_map]; lia⟩, ?_⟩
    walk_at "EE"
    rw [List.length_map]
    refine ⟨fun h => ?_, fun h => ⟨rfl, by walk_at "S"⟩⟩
    have h := of_decide_eq_true h
    have M3' := M3 (by lia)
    walk_at "EE"
    refine ev_compM rfl (by walk_at "st") rfl (comp_m LI (it_list ?_))
    walk_at "EE"
    refine ⟨_, ⟨rfl, by rw [List.length_map]; lia⟩, usedF rows, fun p => .int (minI p), rfl, fun p hp => ⟨_, rfl, ?_⟩, ?_⟩
    · walk_at "EE"
      refine ⟨p, ⟨rfl, fun e => ?_⟩, fun mm hm1 hm2 => ⟨by walk_at "S", ?_⟩⟩
      · unfold usedF at hp
        have := (List.mem_filter.mp hp).2
        rw [e] at this; cases this
      · rw [minI_eq hm1 hm2]; rfl
    refine ⟨(usedF rows).map minI, by show D.list _ = D.list _; rw [List.map_map]; rfl, ?_⟩
    walk_at "EE"
    exact ⟨by rw [decide_eq_false_iff_not]; lia, by walk_at "S"⟩
  refine exL_ifret ?_
  walk_at "EE"
  refine ⟨_, ⟨rfl, by rw [List.length_map]; lia⟩, ?_⟩
  walk_at "EE"
  rw [List.length_map]
  refine ⟨fun h => ?_, fun h => ?_⟩
  · walk_at "EE"
    exact ⟨_, .inl rfl, js2, rfl, rfl, hj2⟩
  have h := of_decide_eq_false h
  obtain ⟨⟨M5, M6⟩, M7, M8⟩ := M4 (by lia)
  have huv : ∀ p ∈ usedF rows, p.length ≤ 9 := fun p hp => by have := hupl p hp; lia
  refine exL_to [(jarN, Val.own js2), (sN "counts", Val.d (LI cs)), (sN "groups", Val.d (LI gs)), (sN "lengths", Val.d (LI (lsF cs most))), (sN "most", Val.d (.int most)), (sN "rows", Val.d (.list (rows.map LI))), (sN "sums", Val.d (LI (rows.map List.sum))),
    (sN "one", Val.d (.int (totI cs (lsF cs most)))), (sN "apart", Val.d (.int (apartF rows most))), (sN "top", Val.d (.int (totF (rows.map List.sum) most))), (sN "over", Val.d (.int (overF cs rows)))]
    (ex_assign (by walk_at "st") rfl ?_) ?_
  · walk_at "EE"
    refine ev_compM rfl (by walk_at "st") rfl (comp_f LI (it_list ?_))
    walk_at "EE"
    refine ⟨_, ⟨rfl, by rw [List.length_map]; lia⟩, usedF rows, fun p => decide (1 < p.length), fun p => .int p.sum, rfl, fun p hp => ⟨_, rfl, ?_⟩, ?_⟩
    · walk_at "EE"
      refine ⟨_, ⟨rfl, by rw [List.length_map]; have := huv p hp; lia⟩, ?_⟩
      walk_at "EE"
      refine ⟨by rw [List.length_map]; simp; lia, by walk_at "S", fun _ => ?_⟩
      walk_at "EE"
      exact ⟨p, rfl, by walk_at "S", rfl⟩
    refine ⟨((usedF rows).filter fun p => decide (1 < p.length)).map List.sum, by show D.list _ = D.list _; rw [List.map_map]; rfl, ?_⟩
    walk_at "EE"
    refine ⟨_, ⟨rfl, by rw [List.length_map]; lia⟩, ?_⟩
    walk_at "EE"
    rw [List.length_map]
    refine ⟨fun h2 => ?_, fun h2 => ?_⟩
    · walk_at "EE"
      refine ⟨cs, rfl, ?_⟩
      walk_at "EE"
      refine ⟨rfl, ?_⟩
      have h2 := of_decide_eq_true h2
      unfold overF
      rw [if_pos (by lia)]
      walk_at "S"
    · walk_at "EE"
      refine ⟨rfl, ?_⟩
      have h2 := of_decide_eq_false h2
      unfold overF
      rw [if_neg (by lia)]
      walk_at "S"
  refine exL_ifret ?_
  walk_at "EE"
  rw [if_pos (decide_eq_true M5)]
  walk_at "EE"
  refine ⟨fun h => ?_, fun _ => ?_⟩
  · rw [decide_eq_true M6] at h; cases h
  refine exL_to [(jarN, Val.own js2), (sN "counts", Val.d (LI cs)), (sN "groups", Val.d (LI gs)), (sN "lengths", Val.d (LI (lsF cs most))), (sN "most", Val.d (.int most)), (sN "rows", Val.d (.list (rows.map LI))), (sN "sums", Val.d (LI (rows.map List.sum))), (sN "same", Val.d (.bool (totI cs (lsF cs most) == apartF rows most + totF (rows.map List.sum) most)))]
    (ex_assign (by walk_at "st") rfl ?_) ?_
  · walk_at "EE"
    exact ⟨rfl, by walk_at "S"⟩
  have hfar : ∀ l ∈ lsF cs most, 1 ≤ l ∧ l ≤ most := fun l hl => by
    obtain ⟨i, hi, rfl⟩ := List.mem_iff_getElem.mp hl
    have hi2 : i < cs.length := by lia
    obtain ⟨l, h1, h3, h4⟩ := Lp2 i cs[i] (List.getElem?_eq_getElem hi2) (by have := hc _ (List.getElem_mem hi2); lia)
    rw [List.getElem?_eq_getElem hi] at h1
    injection h1 with h1
    rw [h1]; exact ⟨h3, h4⟩
  refine exL_to [(jarN, Val.own js2), (sN "counts", Val.d (LI cs)), (sN "groups", Val.d (LI gs)), (sN "lengths", Val.d (LI (lsF cs most))), (sN "most", Val.d (.int most)), (sN "rows", Val.d (.list (rows.map LI))), (sN "sums", Val.d (LI (rows.map List.sum))), (sN "same", Val.d (.bool (totI cs (lsF cs most) == apartF rows most + totF (rows.map List.sum) most))), (sN "shares", Val.own ((sharesF (lsF cs most) gs N most).map D.int))]
    (ex_assign_compM (by walk_at "st") rfl (by walk_at "st") rfl (comp_m (fun (k : Nat) => D.int k) (it_range1 (by exact rfl) ?_))) ?_
  · walk_at "EE"
    refine ⟨_, ⟨rfl, by rw [List.length_map]; lia⟩, ?_⟩
    refine ⟨_, ⟨rfl, by rw [List.length_map]; lia, by rw [List.length_map]; lia⟩, List.range N, fun k => .int ((((lsF cs most).zip gs).filter fun p => p.2 == (k : Int)).map fun p => (2 : Int) ^ ((most : Int) - p.1).toNat).sum, ?_, fun k hk => ⟨_, rfl, ?_⟩, rfl, ?_⟩
    · rw [range01, List.map_map, List.length_map, hrl]; rfl
    · walk_at "EE"
      refine ev_compM rfl ⟨[sN "far", sN "own"], rfl, by walk_at "sts"⟩ rfl (comp_f zpT (it_zip (by exact rfl) ?_))
      walk_at "EE"
      refine ⟨_, ⟨rfl, by rw [List.length_map]; lia⟩, ?_⟩
      walk_at "EE"
      refine ⟨_, rfl, (lsF cs most).zip gs, fun p => p.2 == (k : Int), fun p => .int ((2 : Int) ^ ((most : Int) - p.1).toNat), zipI_ints, fun p hp => ⟨_, rfl, ?_⟩, ?_⟩
      · have hp1 := hfar p.1 (List.of_mem_zip hp).1
        walk_at "EE"
        refine ⟨rfl, by walk_at "S", fun _ => ?_⟩
        walk_at "EE"
        refine ⟨⟨by lia, by lia, by decide, by decide⟩, ?_⟩
        exact ⟨by walk_at "S", rfl⟩
      · refine ⟨(((lsF cs most).zip gs).filter fun p => p.2 == (k : Int)).map fun p => (2 : Int) ^ ((most : Int) - p.1).toNat, ?_, by walk_at "S", rfl⟩
        show D.list _ = D.list _
        rw [List.map_map]; rfl
    · unfold sharesF
      rw [List.map_map]
      walk_at "S"
  refine exL_frz (y := sN "shares") (by rfl) ?_
  refine exL_ifret ?_
  refine CoQ.post (P := fun c V₂ => c = false ∧ Sub [(jarN, Val.own js2), (sN "counts", Val.d (LI cs)), (sN "groups", Val.d (LI gs)), (sN "lengths", Val.d (LI (lsF cs most))), (sN "most", Val.d (.int most)), (sN "rows", Val.d (.list (rows.map LI))), (sN "sums", Val.d (LI (rows.map List.sum))), (sN "same", Val.d (.bool (totI cs (lsF cs most) == apartF rows most + totF (rows.map List.sum) most)))] V₂) ?_ (fun c V₂ ⟨h1, h2⟩ => ⟨V₂, .refl _, fun h => (by rw [h1] at h; cases h), fun _ => ExL.sub ?_ h2⟩)
  · walk_at "EE"
    refine co_plain ?_
    refine ev_call (memR hG r15_at) r15_nm (by exact rfl) ⟨rfl, ?_⟩
    walk_at "EE"
    refine ⟨rfl, ?_⟩
    walk_at "EE"
    refine ⟨⟨by lia, by lia, by decide, by decide⟩, ?_⟩
    show FnS G 5 r15 [LI (sharesF (lsF cs most) gs N most), .int (2 ^ most)] _
    refine (w_halved hG (ps := sharesF (lsF cs most) gs N most) (w := 2 ^ most) (by unfold sharesF; rw [List.length_map, List.length_range]; lia)).use (n := 5) (by decide) fun x hx => ?_
    subst hx
    refine ⟨_, ⟨rfl, fun xs h => by cases h⟩, fun h => ?_, fun h => ⟨rfl, by walk_at "S"⟩⟩
    have M7' := M7 h
    walk_at "EE"
    refine co_plain ?_
    walk_at "EE"
    refine ⟨_, ⟨rfl, fun xs h => by cases h⟩, ?_, by walk_at "S"⟩
    rw [M7']; simp
  refine exL_cons (ex_return ?_)
  walk_at "EE"
  refine ev_call (memR hG r15_at) r15_nm (by exact rfl) ⟨rfl, ?_⟩
  walk_at "EE"
  refine ⟨rfl, ?_⟩
  walk_at "EE"
  refine ⟨cs, rfl, ?_⟩
  show FnS G 5 r15 [LI cs, .int cs.sum] _
  refine (w_halved hG (ps := cs) (w := cs.sum) (by lia)).use (n := 5) (by decide) fun x hx => ?_
  subst hx
  refine ⟨_, rfl, _, rfl, fun h => ⟨_, .inl rfl, js2, rfl, rfl, hj2⟩, fun h => ?_⟩
  have hh : halvF cs cs.sum = true := by simpa using h
  have M8' := M8 hh
  walk_at "EE"
  refine ev_call (memR hG r15_at) r15_nm (by exact rfl) ⟨rfl, ?_⟩
  walk_at "EE"
  refine ⟨rfl, ?_⟩
  walk_at "EE"
  refine ⟨cs, rfl, ?_⟩
  show FnS G 5 r15 [LI (rows.map List.sum), .int cs.sum] _
  refine (w_halved hG (ps := rows.map List.sum) (w := cs.sum) (by rw [List.length_map]; lia)).use (n := 5) (by decide) fun x hx => ?_
  subst hx
  have e : ((totI cs (lsF cs most) == apartF rows most + totF (rows.map List.sum) most) == halvF (rows.map List.sum) cs.sum) = true := by
    rw [beq_iff_eq, Bool.eq_iff_iff, beq_iff_eq]
    exact M8'
  refine ⟨_, .inl rfl, js2, rfl, ?_, hj2⟩
  show R.d (.bool _) = _
  rw [e]
theorem exL_either {G : GC} {n : Nat} {sc : Scope} {t : List Stmt} {Q : Fl → VM → Prop} {V : VM} {y : Str} {gv : Val} {ds : List D} (h : gv = .d (.list ds) ∨ gv = .own ds) (hq : ExL G n sc t ((y, .d (.list ds)) :: V) Q) : ExL G n sc t ((y, gv) :: V) Q := by
  rcases h with h | h
  · rw [h]; exact hq
  · rw [h]
    refine exL_frz (y := y) (ds := ds) (by simp [List.lookup]) ?_
    unfold setV
    rw [if_pos rfl]
    exact hq
theorem even_lt : ∀ m : Nat, m ≤ 9 → 3 ≤ m → evenN m < m := by decide
theorem pow_room : ∀ m : Nat, m ≤ 9 → 3 ≤ m → m ≤ 2 ^ (m - 1) := by decide
theorem w_law {G : GC} (hG : G.recs = recsOf PV) (M : MF) {ns : List Int} (hl : ns.length ≤ 63) {d : DefRec} (hd : (recsOf PV)[18]? = some d) :
    ExL G 7 d.scope d.body [(sN "script", Val.d (LI ns))] (fun fl _ => fl = .ret (.d (.bool true))) := by
  injection hd with hd
  subst hd
  dsimp only
  refine exL_step (P := fun V₁ => ∃ js : List D, JarOk js ∧ Sub [(sN "script", Val.d (LI ns)), (jarN, Val.own js)] V₁)
    (ex_assign ⟨.inl rfl, .inr rfl⟩ rfl ?_) ?_
  · refine ev_call (memR hG r7_at) r7_nm (by exact rfl) ⟨rfl, ?_⟩
    walk_at "EE"
    show FnS G 7 r7 [LI ns] _
    refine (w_jar hG hl).use (n := 7) (by decide) fun r hr1 => ?_
    obtain ⟨a, b, hr⟩ := hr1
    subst hr
    refine ⟨rfl, [.int a, .int b], ⟨a, b, rfl⟩, ?_⟩
    walk_at "S"
  rintro V₁ ⟨js, hj, hsub⟩
  refine ExL.sub ?_ hsub
  refine exL_step (P := fun V₁ => ∃ (l g : List Int) (js' : List D), (3 ≤ l.length ∧ l.length ≤ 9 ∧ g.length = l.length) ∧ (∀ x ∈ l, 1 ≤ x ∧ x ≤ 8) ∧ (∀ x ∈ g, 0 ≤ x ∧ x ≤ 3) ∧ JarOk js' ∧ Sub [(jarN, Val.own js'), (sN "tree", Val.d (.tup [LI l, LI g]))] V₁)
    (ex_assign (by walk_at "st") rfl ?_) ?_
  · refine ev_call_jar (memR hG r9_at) r9_nm (by exact rfl) (by rfl) ?_
    refine ⟨_, rfl, (w_tree hG hj).use (n := 7) (by decide) fun r js' hr2 => ?_⟩
    obtain ⟨l, g, hr, h1, h2, h3, hj'⟩ := hr2
    subst hr
    exact ⟨rfl, l, g, js', h1, h2, h3, hj', by walk_at "S"⟩
  rintro V₂ ⟨l, g, js1, ht, htl, htg, hj1, hsub⟩
  refine ExL.sub ?_ hsub
  refine exL_step (P := fun V₁ => ∃ (cs : List Int) (js' : List D), cs.length = l.length ∧ (∀ c ∈ cs, 1 ≤ c) ∧ JarOk js' ∧ Sub [(jarN, Val.own js'), (sN "tree", Val.d (.tup [LI l, LI g])), (sN "counts", Val.d (LI cs))] V₁)
    (ex_assign (by walk_at "st") rfl ?_) ?_
  · refine ev_call_jar (memR hG r10_at) r10_nm (by exact rfl) (by rfl) ⟨rfl, ?_⟩
    walk_at "EE"
    refine ⟨_, ⟨by decide, by decide, rfl⟩, ?_⟩
    refine ⟨_, rfl, (w_counts hG hj1 (l := l) ⟨ht.1, ht.2.1⟩ htl).use (n := 7) (by decide) fun r js' hr3 => ?_⟩
    obtain ⟨cs, hr, h1, h2, hj'⟩ := hr3
    subst hr
    exact ⟨rfl, cs, js', h1, h2, hj', by walk_at "S"⟩
  rintro V₃ ⟨cs, js2, hcl, hc, hj2, hsub⟩
  refine ExL.sub ?_ hsub
  have hn : 3 ≤ cs.length ∧ cs.length ≤ 9 := by lia
  refine exL_to [(jarN, Val.own js2), (sN "tree", Val.d (.tup [LI l, LI g])), (sN "counts", Val.d (LI cs)), (sN "many", Val.d (.int (cs.length : Int)))]
    (ex_assign (by walk_at "st") rfl ?_) ?_
  · walk_at "EE"
    refine ⟨_, ⟨rfl, by rw [List.length_map]; lia⟩, rfl, ?_⟩
    rw [List.length_map]
    walk_at "S"
  refine exL_step (P := fun V₁ => ∃ (gs ps : List Int) (gv : Val) (js' : List D), (gv = .d (.list (gs.map D.int)) ∨ gv = .own (gs.map D.int)) ∧ gs.length = cs.length ∧ (∀ c ∈ gs, 0 ≤ c ∧ c < 9) ∧ ps.length = cs.length ∧ (∀ c ∈ ps, 0 ≤ c ∧ c < 9) ∧ JarOk js' ∧
    Sub [(sN "groups", gv), (jarN, Val.own js'), (sN "counts", Val.d (LI cs)), (sN "many", Val.d (.int (cs.length : Int))), (sN "pair", Val.d (LI ps))] V₁)
    (ex_tup_swap (xs := [sN "groups", sN "pair"]) rfl (by walk_at "sts") (by walk_at "sw") ?_) ?_
  · refine ⟨rfl, ?_⟩
    refine ev_call_jar (memR hG r11_at) r11_nm (by exact rfl) (by rfl) ⟨rfl, ?_⟩
    walk_at "EE"
    refine ⟨_, ⟨by decide, by decide, rfl⟩, ?_⟩
    refine ⟨_, rfl, (w_parted hG hj2 (g := g) (by lia) (fun x hx => by have := htg x hx; lia)).use (n := 7) (by decide) fun r js' hr4 => ?_⟩
    obtain ⟨gs, hr, h1, h2, hj'⟩ := hr4
    refine ⟨rfl, ?_⟩
    refine ev_call_jar (memR hG r12_at) r12_nm (by exact rfl) (by rfl) ⟨rfl, ?_⟩
    walk_at "EE"
    refine ⟨_, rfl, (w_pair hG hj' (cs := cs) hn).use (n := 7) (by decide) fun r2 js3 hr5 => ?_⟩
    obtain ⟨ps, hr2, h3, h4, hj3⟩ := hr5
    subst hr2
    refine ⟨⟨rfl, Nat.le_of_ble_eq_true rfl⟩, rfl, gs, ps, r.val, js3, ?_, by lia, h2, h3, h4, hj3, ?_⟩
    · rcases hr with hr | hr
      · rw [hr]; exact .inl rfl
      · rw [hr]; exact .inr rfl
    · walk_at "S"
  rintro V₄ ⟨gs, ps, gv, js3, hgv, hgl, hg, hpl, hp, hj3, hsub⟩
  refine ExL.sub (exL_either hgv ?_) hsub
  have hev := evenN_ok cs.length hn.2
  have hel := even_lt cs.length hn.2 hn.1
  refine exL_step (P := fun V₁ => ∃ (most : Nat) (js' : List D), cs.length ≤ 2 ^ most ∧ most ≤ 9 ∧ JarOk js' ∧
    Sub [(sN "groups", Val.d (LI gs)), (jarN, Val.own js'), (sN "counts", Val.d (LI cs)), (sN "many", Val.d (.int (cs.length : Int))), (sN "pair", Val.d (LI ps)), (sN "most", Val.d (.int most))] V₁) (ex_assign (by walk_at "st") rfl ?_) ?_
  · walk_at "EE"
    walk_at "T"
    refine ⟨_, rfl, (w_take hG hj3 (many := 2) (by decide) (by decide)).use (n := 7) (by decide) fun r js' hr6 => ?_⟩
    obtain ⟨d, hr, d0, d1, hj'⟩ := hr6
    subst hr
    walk_at "EE"
    have e : ((cs.length : Int) - 1 + d) = ((cs.length - 1 + d.toNat : Nat) : Int) := by lia
    rw [e]
    refine ⟨rfl, cs.length - 1 + d.toNat, js', Nat.le_trans (pow_room _ hn.2 hn.1) (Nat.pow_le_pow_right (by decide) (by lia)), by lia, hj', ?_⟩
    walk_at "S"
  rintro V₅ ⟨most0, js4, hm01, hm02, hj4, hsub⟩
  refine ExL.sub ?_ hsub
  refine exL_step (P := fun V₁ => ∃ (most : Nat) (js' : List D), cs.length ≤ 2 ^ most ∧ most ≤ 9 ∧ JarOk js' ∧
    Sub [(sN "groups", Val.d (LI gs)), (jarN, Val.own js'), (sN "counts", Val.d (LI cs)), (sN "pair", Val.d (LI ps)), (sN "most", Val.d (.int most))] V₁) (ex_if2 ?_) ?_
  · walk_at "EE"
    walk_at "T"
    refine ⟨_, rfl, (w_take hG hj4 (many := 4) (by decide) (by decide)).use (n := 7) (by decide) fun r js' hr7 => ?_⟩
    obtain ⟨d, hr, d0, d1, hj'⟩ := hr7
    subst hr
    walk_at "EE"
    refine ⟨fun h => ?_, fun h => exL_end ⟨rfl, most0, js', hm01, hm02, hj', by walk_at "S"⟩⟩
    refine exL_cons (ex_assign (by walk_at "st") rfl ?_)
    walk_at "EE"
    refine ev_call (memR hG r13_at) r13_nm (by exact rfl) ⟨rfl, ?_⟩
    walk_at "EE"
    refine (w_even hG (many := (cs.length : Int))).use (n := 7) (by decide) fun r hr => ?_
    subst hr
    rw [evenI_N]
    walk_at "EE"
    walk_at "T"
    refine ev_call (memR hG r13_at) r13_nm (by exact rfl) ⟨rfl, ?_⟩
    walk_at "EE"
    refine (w_even hG (many := (cs.length : Int))).use (n := 7) (by decide) fun r hr => ?_
    subst hr
    rw [evenI_N]
    walk_at "EE"
    refine ⟨_, rfl, (w_take hG hj' (many := (cs.length : Int) - (evenN cs.length : Int)) (by lia) (by lia)).use (n := 7) (by decide) fun r js5 hr8 => ?_⟩
    obtain ⟨e, hr, e0, e1, hj5⟩ := hr8
    subst hr
    walk_at "EE"
    have e' : ((evenN cs.length : Int) + e) = ((evenN cs.length + e.toNat : Nat) : Int) := by lia
    rw [e']
    refine exL_end ⟨rfl, evenN cs.length + e.toNat, js5, Nat.le_trans hev.1 (Nat.pow_le_pow_right (by decide) (by lia)), by lia, hj5, ?_⟩
    walk_at "S"
  rintro V₆ ⟨most, js5, hm1, hm2, hj5, hsub⟩
  refine ExL.sub ?_ hsub
  have hmost1 : 1 ≤ most := by
    rcases Nat.eq_zero_or_pos most with h | h
    · rw [h] at hm1; lia
    · exact h
  have hpc : (posL cs).length = cs.length := by
    rw [posL_filter, List.filter_eq_self.mpr fun c h => by have := hc c h; simp; lia]
  refine exL_to [(sN "groups", Val.d (LI gs)), (jarN, Val.own js5), (sN "counts", Val.d (LI cs)), (sN "pair", Val.d (LI ps)), (sN "most", Val.d (.int most)), (sN "lengths", Val.d (LI (lsF cs most)))]
    (ex_assign (by walk_at "st") rfl ?_) ?_
  · refine ev_call (memR hG r6_at) r6_nm (by exact rfl) ⟨rfl, ?_⟩
    walk_at "EE"
    refine ⟨rfl, ?_⟩
    walk_at "EE"
    show FnS G 7 r6 [LI cs, .int most] _
    refine (w_least hG (cs := cs) (L := most) (fun c h => by have := hc c h; lia) (by lia) (by lia) hmost1 (by lia) (by lia)).use (n := 7) (by decide) fun r hr9 => ?_
    obtain ⟨ls, hr, hls⟩ := hr9
    subst hr
    rw [lsR_eq hls]
    exact ⟨rfl, by walk_at "S"⟩
  refine exL_step (P := fun V₁ => ∃ (js' : List D), JarOk js' ∧ Sub [(sN "groups", Val.d (LI gs)), (jarN, Val.own js'), (sN "counts", Val.d (LI cs)), (sN "pair", Val.d (LI ps)), (sN "most", Val.d (.int most)), (sN "lengths", Val.d (LI (lsF cs most)))] V₁) (ex_if2 ?_) ?_
  · walk_at "EE"
    refine co_plain ?_
    refine ev_call_jar (memR hG r17_at) r17_nm (by exact rfl) (by rfl) ⟨rfl, ?_⟩
    walk_at "EE"
    refine ⟨rfl, ?_⟩
    walk_at "EE"
    refine ⟨rfl, ?_⟩
    walk_at "EE"
    refine ⟨rfl, ?_⟩
    walk_at "EE"
    refine ⟨_, rfl, (w_rounds hG M hj5 hn hgl hc hg hm1 hm2).use (n := 7) (by decide) fun r js' hr10 => ?_⟩
    obtain ⟨hr, hj'⟩ := hr10
    subst hr
    exact ⟨_, ⟨rfl, fun xs h => by cases h⟩, fun h => by (cases h), fun _ => exL_end ⟨rfl, js', hj', by walk_at "S"⟩⟩
  rintro V₇ ⟨js6, hj6, hsub⟩
  refine ExL.sub ?_ hsub
  refine exL_cons (ex_return ?_)
  refine ev_call_jar (memR hG r17_at) r17_nm (by exact rfl) (by rfl) ⟨rfl, ?_⟩
  walk_at "EE"
  refine ⟨rfl, ?_⟩
  walk_at "EE"
  refine ⟨rfl, ?_⟩
  walk_at "EE"
  refine ⟨rfl, ?_⟩
  walk_at "EE"
  refine ⟨_, rfl, (w_rounds hG M hj6 hn hpl hc hp hm1 hm2).use (n := 7) (by decide) fun r js' hr11 => ?_⟩
  obtain ⟨hr, hj'⟩ := hr11
  subst hr
  rfl
end Mine
end

section
open PySem PySem.W PyProof.Rows PySem.Calls
namespace Mine
theorem reps_ints {Z : Zm} {vs : List Value} {ns : List Int} (h : IntsAre vs ns) : Reps Z (ns.map D.int) vs := by
  induction h with
  | nil => exact .nil
  | cons n t _ ih => exact .cons ⟨t, rfl⟩ ih
theorem blt_free {loose : List Str} {mean : ExcName → Option Value} {mg mb : Str → Option Value} {h : Heap} (T : Top PV loose mean mg mb h)
    (hl : bltN.all (fun x => !(startupNames.contains x) && !(loose.contains x) && !(((recsOf PV).map (·.name)).contains x) && !(((litsOf PV).map (·.1)).contains x) && !(((clssOf PV loose).map (·.name)).contains x)) = true) :
    ∀ x ∈ bltN, mg x = none := fun x hx => by
  have := List.all_eq_true.mp hl x hx
  simp only [Bool.and_eq_true, Bool.not_eq_true', List.contains_eq_mem, decide_eq_false_iff_not] at this
  exact T.free x this.1.1.1.1 this.1.1.1.2 this.1.1.2 this.1.2 this.2
theorem join_law (M : MF) {prog : Program} {w : World} {loose : List Str} {mean : ExcName → Option Value} {mg mb : Str → Option Value} {h₀ h₁ : Heap} (T : Top PV loose mean mg mb h₀)
    (hfree : ∀ x ∈ bltN, mg x = none) {ns : List Int} {vals : List Value} {addr : Addr} (hL : h₀.IsList addr vals.toArray) (hI : IntsAre vals ns) (hl : ¬ ((63 : Nat) : Int) < (ns.length : Int))
    {m : Str → Option Value} (F : Fr h₀ h₀.objs.size h₁ m) (hm : m (sN "script") = some (.ref addr)) {d : DefRec} (hd : (recsOf PV)[18]? = some d) (hk : d.scope.kind = .function)
    (hc : d.scope.names.all (fun p => p.2 != .cell && p.2 != .free) = true) (hs : d.scope.names.lookup (sN "script") = some .local)
    {name : Str} {fa : Addr} {cd : Value} {s : Shared} (hsh : s.heap = h₁) {E : Value → Shared → Prop} {P : Flow → Shared → Prop} (hP : ∀ s' m', Fr h₀ h₀.objs.size s'.heap m' → s'.os = s.os → s'.gens = s.gens → P (.ret (.bool true)) s') :
    wpAny (model prog w) (callerA.deeper (envOf name d.scope h₀.objs.size fa cd)) (execs d.body (envOf name d.scope h₀.objs.size fa cd)) P E s := by
  subst hsh
  let G : GC := { prog := prog, w := w, hT := h₀, mg := mg, mb := mb, recs := recsOf PV, g := T.g, b := T.b, nolim := T.nolimit, mbv := fun x hx => T.builtins x (by intro h; subst h; revert hx; decide), fn := T.fn, free := hfree }
  have hx := w_law (G := G) rfl M (ns := ns) (by omega) hd
  have none0 : ∀ x, (d.scope.names.lookup x = some .cell ∨ d.scope.names.lookup x = some .free) → False := fun x hx => by
    have hm : ∀ (l : List (Str × NameKind)) k, l.lookup x = some k → ∃ p ∈ l, p.2 = k := fun l k => by
      induction l with
      | nil => intro h; cases h
      | cons a l ih =>
        intro h
        rw [List.lookup_cons] at h
        split at h
        · exact ⟨a, List.mem_cons_self, by injection h⟩
        · obtain ⟨p, hp, e⟩ := ih h
          exact ⟨p, List.mem_cons_of_mem _ hp, e⟩
    rcases hx with h | h
    · obtain ⟨p, hp, e⟩ := hm _ _ h
      have := List.all_eq_true.mp hc p hp
      rw [e] at this; cases this
    · obtain ⟨p, hp, e⟩ := hm _ _ h
      have := List.all_eq_true.mp hc p hp
      rw [e] at this; cases this
  obtain ⟨o, ho, hcls, n, hdata⟩ := hL
  refine wpAny_mono (hx (envOf name d.scope h₀.objs.size fa cd) (callerA.deeper (envOf name d.scope h₀.objs.size fa cd)) E s h₀.get? (fun _ => 0)
    ⟨rfl, rfl, rfl, hk, fun x hx => (none0 x hx).elim⟩ ⟨rfl, show 1 + claimMargin + 1 + 2 * 7 + 20 < recursionLimit by decide, show 4 + 3 + 20 * 7 + 200 < cLine by decide⟩
    { base := fun _ _ e => e
      fz := F.keep
      ns := ⟨m, F.ns⟩
      zl := ?_
      cell := fun x c e => by cases e
      zc := fun x c e => by cases e
      cinj := fun x y c e => by cases e
      val := fun x v e => ?_
      own := fun x ds e => ?_
      inj := fun x y ds es e => ?_ }) (fun fl s' ⟨Z', V', al', r, g, st, rr, q⟩ => ?_) fun _ _ e => e
  · cases e : h₀.get? (envOf name d.scope h₀.objs.size fa cd).locals with
    | none => rfl
    | some o' => exact absurd (Heap.lt_size e) (Nat.lt_irrefl _)
  · rw [List.lookup_cons] at e
    split at e
    next hx =>
      injection e with e; injection e with e; subst e
      have hx : x = sN "script" := by simpa using hx
      subst hx
      exact ⟨_, .inl ⟨hs, m, F.ns, hm⟩, addr, vals, rfl, ⟨o, n, ho, hcls, hdata⟩, reps_ints hI⟩
    next hx => cases e
  · rw [List.lookup_cons] at e
    split at e
    · injection e with e; cases e
    · cases e
  · rw [List.lookup_cons] at e
    split at e
    · injection e with e; cases e
    · cases e
  · subst q
    cases fl with
    | ret v =>
      have hv : v = .bool true := rr
      subst hv
      obtain ⟨m', hm'⟩ := st.ns
      refine hP s' m' ⟨hm', fun b o e => ?_, Nat.le_refl _⟩ g.kp.1 g.kp.2
      refine g.obj b o (F.keep b o e) (fun ⟨x, ds, ex, _⟩ => ?_) (fun eb => ?_) (fun x _ _ hc => by cases hc)
      · rw [List.lookup_cons] at ex
        split at ex
        · injection ex with ex; cases ex
        · cases ex
      · rw [eb] at e; exact absurd (Heap.lt_size e) (Nat.lt_irrefl _)
    | _ => exact rr.elim
end Mine
end

open PySem PySem.W PyProof.Rows PySem.Calls
theorem PySem.Challenge.cw_tk0115_01_holds : PySem.Challenge.rw_tk0115_01.Holds := by
  w_on
  refine holds_law (by decide +kernel) fun said => ?_
  refine holds_open (q := Mine.PV) (loose := [Str.ofString "PressError"]) (Xt := fun s => xlAt Mine.PV [] s && recOk (RowW.records (OpenRow.toRowW PySem.Challenge.rw_tk0115_01.row)) s) (XP := XL Mine.PV []) (Yf := Hook.obs Hook.none) (Ya := Hook.val Hook.none) (YP := Hook.says Hook.none) (N := 2180) ?hl (Hook.of Hook.none) (Hook.keeps Hook.none) (fun s e => xl_of s (Bool.and_eq_true_iff.mp e).1) XL.keeps (by rfl) (by rfl) (by rfl) (fun s e => recFacts_of (Bool.and_eq_true_iff.mp e).2) (by rfl) (by first | assumption | decide +kernel) (by decide +kernel) ⟨rfl, rfl, rfl, rfl, rfl, by decide +kernel⟩ ?hw ?hc
  case hl => exact fun w => by kernel_rfl
  case hw => w_witness2
  case hc =>
    intro w s₀ s₁ mg mb G Y fa o pm cd doc dV kV ho hd hcd hD hmg hg args vals as hpre hlay hrd hwl hlo
    refine Ground.open G ?_
    intro T B D TE TW
    try (refine guard_noD D (by decide +kernel) ?_; clear D)
    obtain ⟨_, _, MM⟩ := bmod_of_top T
    obtain ⟨_, _, he, B0⟩ := based_of_top T rfl hmg ho hd
    have he' : cd = _ := he
    subst he'
    clear he hmg
    wrow_args hpre hlay hrd hwl hlo
    refine enter_call ?_
    w_top on
    refine codeAny_mono ?_ (fun _ _ g => GoodW.toG g)
    w_call any ho hd hcd hD T F
    rename Heap.IsList _ _ _ => hL
    rename IntsAre _ _ => hI
    rename ¬ ((63 : Nat) : Int) < _ => hcond1
    have hfree := Mine.blt_free T (by decide +kernel)
    clear B TE TW
    refine Mine.join_law Mine.mf T hfree hL hI hcond1 F rfl rfl rfl rfl rfl ?hsh ?hP
    case hsh => rfl
    case hP =>
      intro s' m' F' hos hgens
      exact goodW_bool F' (hgens.trans hg) (fun cls => rfl) (by wrow_post) hos
