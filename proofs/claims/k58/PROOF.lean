import PyProof.Rows.All
import Wide.All
import OpenK.AllK
import Wide.FinOn
import PySem.Challenge.RW_sincemarks_k58_whole_bases_by_heights
import HandS.ForMost
import HandS.IsInst
import HandS.Defaults
import HandS.Conv
import HandS.Style
import HandS.TupLe
import HandS.TupAny
import HandS.Zip
import HandS.Walk
import HandS.Wide
import HandS.TupSets
import HandS.Evl
import KE.GoesEnum
import KE.DatumOrd
set_option Elab.async false
set_option linter.all false
set_option maxRecDepth 100000
set_option maxHeartbeats 4000000
/-! K58Math: the plain law: what the program's functions compute, as functions on lists of numbers, and why the law's tests hold. No program in sight. -/
namespace K58
/-! ### the mirrors -/
def par (h : List Nat) (v : Nat) : Nat := h.getD (v - 1) 0
def Hist (h : List Nat) : Prop := ∀ i x : Nat, h[i]? = some x → x ≤ i
def upF (h : List Nat) : Nat → Nat → List Nat
  | 0, _ => []
  | f + 1, v => if v = 0 then [] else par h v :: upF h f (par h v)
/-- the elders of v, the parent first, 0 last -/
def up (h : List Nat) (v : Nat) : List Nat := upF h v v
def path (h : List Nat) (v : Nat) : List Nat := (v :: up h v).reverse.filter fun e => decide (0 < e)
/-- each base an elder -/
def Bas (h b : List Nat) : Prop := b.length = h.length ∧ ∀ i x : Nat, b[i]? = some x → x ∈ up h (i + 1)
def Hts (h hs : List Nat) : Prop := hs.length = h.length ∧ ∀ x ∈ hs, 1 ≤ x
def hitP (b : List Nat) (z v : Nat) : Bool := decide (par b z < v) && decide (par b v < par b z)
def hitL (h b : List Nat) (z v : Nat) : Bool := (up h v).contains (par b z) && (!decide (par b z = par b v) && !(up h (par b v)).contains (par b z))
/-- the program's search for a crossing -/
def crossP (h b : List Nat) : Option (Nat × Nat) := (List.range h.length).findSome? fun i => ((path h (i + 1)).find? (hitP b (i + 1))).map fun v => (v, i + 1)
/-- the law's -/
def crossL (h b : List Nat) : Option (Nat × Nat) := (List.range h.length).findSome? fun i => (((up h (i + 1)).reverse.drop 1).find? (hitL h b (i + 1))).map fun v => (v, i + 1)
/-- e is the base of v by the heights -/
structure IsBase (h hs : List Nat) (v e : Nat) : Prop where
  mem : e ∈ up h v
  high : e = 0 ∨ par hs v < par hs e
  near : ∀ x ∈ up h v, e < x → par hs x ≤ par hs v
/-- the law's search for the nearest higher elder -/
def higher1 (h hs : List Nat) (v : Nat) : Nat := (up h v).reverse.foldl (fun acc e => if 0 < e ∧ par hs v < par hs e then e else acc) 0
def higher (h hs : List Nat) : List Nat := (List.range h.length).map fun i => higher1 h hs (i + 1)
def reads (b : List Nat) : List Nat := b.foldl (fun acc x => acc ++ [acc.getD x 0 + 1]) [0]
def most (l : List Nat) : Nat := l.foldl max 0
def htsOf (b : List Nat) : List Nat := ((reads b).drop 1).map fun r => most (reads b) + 1 - r
def bump (l : List Nat) (i : Nat) : List Nat := l.set i (l.getD i 0 + 1)
def bumps (l xs : List Nat) : List Nat := xs.foldl bump l
def sheet (h b : List Nat) (z : Nat) : List Nat := (path h z).filter fun c => decide (par b z < c)
def sheetL (h b : List Nat) (z : Nat) : List Nat := (z :: up h z).filter fun c => decide (par b z < c)
def writesP (h b : List Nat) : List Nat := (bumps (List.replicate (h.length + 1) 0) ((List.range h.length).flatMap fun i => sheet h b (i + 1))).drop 1
def writesL (h b : List Nat) : List Nat := bumps (List.replicate h.length 0) ((List.range h.length).flatMap fun i => (sheetL h b (i + 1)).map fun e => e - 1)
def chainF (b : List Nat) : Nat → Nat → List Nat
  | 0, _ => []
  | f + 1, v => if v = 0 then [] else v :: chainF b f (par b v)
def chain (b : List Nat) (v : Nat) : List Nat := chainF b v v
/-- all rows, one of each menu -/
def rowsOf (ms : List (List Nat)) : List (List Nat) := ms.foldl (fun rows menu => rows.flatMap fun row => menu.map fun one => row ++ [one]) [[]]

/-! ### elders -/
theorem getD_getElem? {α : Type} (l : List α) (i : Nat) (d : α) : l.getD i d = (l[i]?).getD d := by
  rw [List.getD_eq_getElem?_getD]
theorem par_at {l : List Nat} {v x : Nat} (h : l[v]? = some x) : par l (v + 1) = x := by
  show l.getD v 0 = x
  rw [getD_getElem?, h]; rfl
theorem par_some {l : List Nat} {v : Nat} (h1 : 1 ≤ v) (h2 : v ≤ l.length) : l[v - 1]? = some (par l v) := by
  have q : v - 1 < l.length := by omega
  unfold par
  rw [getD_getElem?, List.getElem?_eq_getElem q]; rfl
theorem par_lt {h : List Nat} (H : Hist h) {v : Nat} (h1 : 1 ≤ v) : par h v < v := by
  unfold par
  rw [getD_getElem?]
  cases e : h[v - 1]? with
  | none => show 0 < v; omega
  | some x =>
    have := H _ _ e
    show x < v
    omega
theorem par_beyond {l : List Nat} {v : Nat} (h : l.length < v) : par l v = 0 := by
  unfold par
  rw [getD_getElem?, List.getElem?_eq_none (by omega)]; rfl
theorem upF_fuel {h : List Nat} (H : Hist h) : ∀ (f v : Nat), v ≤ f → upF h f v = up h v := by
  intro f
  induction f using Nat.strongRecOn with
  | ind f ih =>
    intro v hv
    cases v with
    | zero =>
      cases f with
      | zero => rfl
      | succ f => show (if (0 : Nat) = 0 then _ else _) = _; rw [if_pos rfl]; rfl
    | succ v =>
      cases f with
      | zero => omega
      | succ f =>
        have hp := par_lt H (v := v + 1) (by omega)
        show (if v + 1 = 0 then [] else par h (v + 1) :: upF h f (par h (v + 1))) = (if v + 1 = 0 then [] else par h (v + 1) :: upF h v (par h (v + 1)))
        rw [if_neg (by omega), if_neg (by omega), ih f (by omega) _ (by omega), ih v (by omega) _ (by omega)]
theorem up_zero (h : List Nat) : up h 0 = [] := rfl
theorem up_step {h : List Nat} (H : Hist h) {v : Nat} (h1 : 1 ≤ v) : up h v = par h v :: up h (par h v) := by
  cases v with
  | zero => omega
  | succ v =>
    have hp := par_lt H (v := v + 1) (by omega)
    show (if v + 1 = 0 then [] else par h (v + 1) :: upF h v (par h (v + 1))) = _
    rw [if_neg (by omega), upF_fuel H _ _ (by omega)]
theorem up_lt {h : List Nat} (H : Hist h) : ∀ (v e : Nat), e ∈ up h v → e < v := by
  intro v
  induction v using Nat.strongRecOn with
  | ind v ih =>
    intro e he
    cases v with
    | zero => rw [up_zero] at he; cases he
    | succ v =>
      rw [up_step H (by omega)] at he
      have hp := par_lt H (v := v + 1) (by omega)
      rcases List.mem_cons.mp he with z | z
      · omega
      · have := ih _ hp e z
        omega
theorem up_trans {h : List Nat} (H : Hist h) : ∀ (v e x : Nat), e ∈ up h v → x ∈ up h e → x ∈ up h v := by
  intro v
  induction v using Nat.strongRecOn with
  | ind v ih =>
    intro e x he hx
    cases v with
    | zero => rw [up_zero] at he; cases he
    | succ v =>
      have hp := par_lt H (v := v + 1) (by omega)
      rw [up_step H (by omega)] at he ⊢
      rcases List.mem_cons.mp he with z | z
      · rw [z] at hx; exact List.mem_cons_of_mem _ hx
      · exact List.mem_cons_of_mem _ (ih _ hp e x z hx)
/-- two elders of one version: the less is an elder of the greater -/
theorem up_comp {h : List Nat} (H : Hist h) : ∀ (v e x : Nat), e ∈ up h v → x ∈ up h v → x < e → x ∈ up h e := by
  intro v
  induction v using Nat.strongRecOn with
  | ind v ih =>
    intro e x he hx hlt
    cases v with
    | zero => rw [up_zero] at he; cases he
    | succ v =>
      have hp := par_lt H (v := v + 1) (by omega)
      rw [up_step H (by omega)] at he hx
      rcases List.mem_cons.mp he with z | z
      · rcases List.mem_cons.mp hx with y | y
        · omega
        · rw [z]; exact y
      · rcases List.mem_cons.mp hx with y | y
        · have := up_lt H _ _ z
          omega
        · exact ih _ hp e x z y hlt
theorem up_has0 {h : List Nat} (H : Hist h) : ∀ (v : Nat), 1 ≤ v → 0 ∈ up h v := by
  intro v
  induction v using Nat.strongRecOn with
  | ind v ih =>
    intro h1
    rw [up_step H h1]
    have hp := par_lt H h1
    by_cases e : par h v = 0
    · rw [e]; exact List.mem_cons_self
    · exact List.mem_cons_of_mem _ (ih _ hp (by omega))
theorem up_le_par {h : List Nat} (H : Hist h) {v e : Nat} (h1 : 1 ≤ v) (he : e ∈ up h v) : e ≤ par h v := by
  rw [up_step H h1] at he
  rcases List.mem_cons.mp he with z | z
  · omega
  · exact Nat.le_of_lt (up_lt H _ _ z)
theorem up_desc {h : List Nat} (H : Hist h) : ∀ (v : Nat), (v :: up h v).Pairwise (· > ·) := by
  intro v
  induction v using Nat.strongRecOn with
  | ind v ih =>
    refine List.pairwise_cons.mpr ⟨fun e he => up_lt H _ _ he, ?_⟩
    by_cases e : v = 0
    · rw [e, up_zero]; exact List.Pairwise.nil
    · rw [up_step H (by omega)]
      exact ih _ (par_lt H (by omega))
theorem up_len {h : List Nat} (H : Hist h) : ∀ (v : Nat), (up h v).length ≤ v := by
  intro v
  induction v using Nat.strongRecOn with
  | ind v ih =>
    by_cases e : v = 0
    · rw [e, up_zero]; exact Nat.le_refl _
    · rw [up_step H (by omega), List.length_cons]
      have hp := par_lt H (v := v) (by omega)
      have := ih _ hp
      omega
theorem up_pos_len {h : List Nat} (H : Hist h) {v : Nat} (h1 : 1 ≤ v) : 0 < (up h v).length := by
  rw [up_step H h1]; exact Nat.succ_pos _
theorem Bas.mem {h b : List Nat} (B : Bas h b) {v : Nat} (h1 : 1 ≤ v) (h2 : v ≤ h.length) : par b v ∈ up h v := by
  have q := par_some (l := b) h1 (by rw [B.1]; exact h2)
  have := B.2 _ _ q
  rw [show v - 1 + 1 = v by omega] at this
  exact this
theorem Bas.lt {h b : List Nat} (H : Hist h) (B : Bas h b) {v : Nat} (h1 : 1 ≤ v) (h2 : v ≤ h.length) : par b v < v := up_lt H _ _ (B.mem h1 h2)
theorem Bas.hist {h b : List Nat} (H : Hist h) (B : Bas h b) : Hist b := fun i x e => by
  have := up_lt H _ _ (B.2 i x e)
  omega
theorem Bas.of {h b : List Nat} (hl : b.length = h.length) (hm : ∀ v, 1 ≤ v → v ≤ h.length → par b v ∈ up h v) : Bas h b := ⟨hl, fun i x e => by
  have hi := (List.getElem?_eq_some_iff.mp e).1
  have := hm (i + 1) (by omega) (by omega)
  rw [par_at e] at this
  exact this⟩
theorem ext_par {a b : List Nat} (hl : a.length = b.length) (h : ∀ v, 1 ≤ v → v ≤ a.length → par a v = par b v) : a = b := by
  apply List.ext_getElem? 
  intro i
  by_cases hi : i < a.length
  · have q1 := par_some (l := a) (v := i + 1) (by omega) (by omega)
    have q2 := par_some (l := b) (v := i + 1) (by omega) (by omega)
    rw [show i + 1 - 1 = i by omega] at q1 q2
    rw [q1, q2, h (i + 1) (by omega) (by omega)]
  · rw [List.getElem?_eq_none (by omega), List.getElem?_eq_none (by omega)]

/-! ### the path -/
theorem filter_pos_up {h : List Nat} (H : Hist h) : ∀ (v : Nat), 1 ≤ v → (up h v).reverse = 0 :: (up h v).reverse.filter fun e => decide (0 < e) := by
  intro v
  induction v using Nat.strongRecOn with
  | ind v ih =>
    intro h1
    rw [up_step H h1, List.reverse_cons, List.filter_append]
    have hp := par_lt H h1
    by_cases e : par h v = 0
    · rw [e, up_zero]; rfl
    · have q := ih _ hp (by omega)
      rw [List.filter_cons, if_pos (by simp; omega), List.filter_nil]
      rw [← List.cons_append, ← q]
theorem drop1_up {h : List Nat} (H : Hist h) {v : Nat} (h1 : 1 ≤ v) : (up h v).reverse.drop 1 = (up h v).reverse.filter fun e => decide (0 < e) := by
  have q := filter_pos_up H v h1
  generalize (up h v).reverse.filter (fun e => decide (0 < e)) = z at q
  rw [q]; rfl
theorem path_eq {h : List Nat} (H : Hist h) {v : Nat} (h1 : 1 ≤ v) : path h v = (up h v).reverse.drop 1 ++ [v] := by
  unfold path
  rw [List.reverse_cons, List.filter_append, drop1_up H h1, List.filter_cons, if_pos (by simp; omega), List.filter_nil]
theorem path_mem {h : List Nat} {v e : Nat} : e ∈ path h v ↔ (e = v ∨ e ∈ up h v) ∧ 0 < e := by
  unfold path
  rw [List.mem_filter, List.mem_reverse, List.mem_cons, decide_eq_true_eq]
theorem find_congr {α : Type} {p q : α → Bool} : ∀ {l : List α}, (∀ x ∈ l, p x = q x) → l.find? p = l.find? q
  | [], _ => rfl
  | x :: l, h => by
    rw [List.find?_cons, List.find?_cons, h x List.mem_cons_self, find_congr fun y hy => h y (List.mem_cons_of_mem _ hy)]
/-- on an elder the two tests agree -/
theorem hit_eq {h b : List Nat} (H : Hist h) (B : Bas h b) {z v : Nat} (h1 : 1 ≤ z) (h2 : z ≤ h.length) (hv : v ∈ up h z) (hv1 : 1 ≤ v) : hitP b z v = hitL h b z v := by
  have hvz := up_lt H _ _ hv
  have mz := B.mem h1 h2
  have mv := B.mem hv1 (by omega)
  unfold hitP hitL
  by_cases c1 : par b z < v
  · have i1 : par b z ∈ up h v := up_comp H _ _ _ hv mz c1
    have e1 : (up h v).contains (par b z) = true := List.contains_iff_mem.mpr i1
    rw [e1, decide_eq_true c1, Bool.true_and, Bool.true_and]
    by_cases c2 : par b v < par b z
    · have n1 : ¬ par b z = par b v := by omega
      have n2 : (up h (par b v)).contains (par b z) = false := by
        cases q : (up h (par b v)).contains (par b z) with
        | false => rfl
        | true =>
          have := up_lt H _ _ (List.contains_iff_mem.mp q)
          omega
      rw [decide_eq_true c2, decide_eq_false n1, n2]; rfl
    · rw [decide_eq_false c2]
      by_cases c3 : par b z = par b v
      · rw [decide_eq_true c3]; rfl
      · have i2 : par b z ∈ up h (par b v) := up_comp H _ _ _ mv i1 (by omega)
        have e2 : (up h (par b v)).contains (par b z) = true := List.contains_iff_mem.mpr i2
        rw [e2, decide_eq_false c3]; rfl
  · have e1 : (up h v).contains (par b z) = false := by
      cases q : (up h v).contains (par b z) with
      | false => rfl
      | true =>
        have := up_lt H _ _ (List.contains_iff_mem.mp q)
        omega
    rw [e1, decide_eq_false c1]; rfl
theorem findSome_congr {α β : Type} {p q : α → Option β} : ∀ {l : List α}, (∀ x ∈ l, p x = q x) → l.findSome? p = l.findSome? q
  | [], _ => rfl
  | x :: l, h => by
    rw [List.findSome?_cons, List.findSome?_cons, h x List.mem_cons_self, findSome_congr fun y hy => h y (List.mem_cons_of_mem _ hy)]
theorem cross_eq {h b : List Nat} (H : Hist h) (B : Bas h b) : crossP h b = crossL h b := by
  unfold crossP crossL
  refine findSome_congr fun i hi => ?_
  have hi' := List.mem_range.mp hi
  rw [path_eq H (by omega), List.find?_append]
  have e1 : [i + 1].find? (hitP b (i + 1)) = none := by
    rw [List.find?_cons]
    have : hitP b (i + 1) (i + 1) = false := by
      unfold hitP
      by_cases c : par b (i + 1) < par b (i + 1)
      · omega
      · rw [decide_eq_false c, Bool.and_false]
    rw [this]; rfl
  rw [e1, Option.or_none]
  congr 1
  refine find_congr fun v hv => ?_
  rw [drop1_up H (by omega)] at hv
  have hv' := List.mem_filter.mp hv
  exact hit_eq H B (by omega) (by omega) (List.mem_reverse.mp hv'.1) (by have := hv'.2; simp at this; omega)
/-- no crossing -/
def Plan (h b : List Nat) : Prop := ∀ z v, 1 ≤ z → z ≤ h.length → v ∈ up h z → 1 ≤ v → par b z < v → par b z ≤ par b v
theorem crossP_none {h b : List Nat} (H : Hist h) (B : Bas h b) : crossP h b = none ↔ Plan h b := by
  unfold crossP
  rw [List.findSome?_eq_none_iff]
  constructor
  · intro hn z v h1 h2 hv hv1 hlt
    have q := hn (z - 1) (List.mem_range.mpr (by omega))
    rw [show z - 1 + 1 = z by omega, Option.map_eq_none_iff, List.find?_eq_none] at q
    have := q v (path_mem.mpr ⟨.inr hv, hv1⟩)
    by_cases c : par b v < par b z
    · exact absurd (show hitP b z v = true by unfold hitP; rw [decide_eq_true hlt, decide_eq_true c]; rfl) this
    · omega
  · intro P i hi
    have hi' := List.mem_range.mp hi
    rw [Option.map_eq_none_iff, List.find?_eq_none]
    intro v hv hh
    unfold hitP at hh
    rw [Bool.and_eq_true, decide_eq_true_eq, decide_eq_true_eq] at hh
    have ⟨m, v0⟩ := path_mem.mp hv
    rcases m with e | m
    · rw [e] at hh; omega
    · have := P (i + 1) v (by omega) (by omega) m v0 hh.1
      omega

/-! ### bases by heights -/
theorem IsBase.one {h hs : List Nat} {v e e' : Nat} (A : IsBase h hs v e) (B : IsBase h hs v e') : e = e' := by
  rcases Nat.lt_trichotomy e e' with c | c | c
  · rcases B.high with z | z
    · omega
    · have := A.near e' B.mem c
      omega
  · exact c
  · rcases A.high with z | z
    · omega
    · have := B.near e A.mem c
      omega
/-- the law's fold over an ascending list: the greatest of those that are higher, or 0 -/
theorem fold_last (p : Nat → Bool) : ∀ (l : List Nat) (a : Nat), l.Pairwise (· < ·) → (∀ x ∈ l, a ≤ x) → 
    let r := l.foldl (fun acc e => if p e = true then e else acc) a
    (r = a ∨ (r ∈ l ∧ p r = true)) ∧ (∀ x ∈ l, p x = true → x ≤ r) ∧ a ≤ r
  | [], a, _, _ => ⟨.inl rfl, fun x hx => (by cases hx), Nat.le_refl _⟩
  | y :: l, a, hp, ha => by
    have ⟨hy, hp'⟩ := List.pairwise_cons.mp hp
    show _ ∧ _
    rw [List.foldl_cons]
    by_cases c : p y = true
    · rw [if_pos c]
      have ⟨i1, i2, i3⟩ := fold_last p l y hp' fun x hx => Nat.le_of_lt (hy x hx)
      refine ⟨.inr ?_, fun x hx hpx => ?_, Nat.le_trans (ha y List.mem_cons_self) i3⟩
      · rcases i1 with e | ⟨m, q⟩
        · rw [e]; exact ⟨List.mem_cons_self, c⟩
        · exact ⟨List.mem_cons_of_mem _ m, q⟩
      · rcases List.mem_cons.mp hx with e | m
        · rw [e]; exact i3
        · exact i2 x m hpx
    · rw [if_neg c]
      have ⟨i1, i2, i3⟩ := fold_last p l a hp' fun x hx => ha x (List.mem_cons_of_mem _ hx)
      refine ⟨?_, fun x hx hpx => ?_, i3⟩
      · rcases i1 with e | ⟨m, q⟩
        · exact .inl e
        · exact .inr ⟨List.mem_cons_of_mem _ m, q⟩
      · rcases List.mem_cons.mp hx with e | m
        · rw [e] at hpx; exact absurd hpx c
        · exact i2 x m hpx
theorem up_asc {h : List Nat} (H : Hist h) (v : Nat) : (up h v).reverse.Pairwise (· < ·) := by
  rw [List.pairwise_reverse]
  exact (List.pairwise_cons.mp (up_desc H v)).2
theorem higher1_is {h : List Nat} (H : Hist h) (hs : List Nat) {v : Nat} (h1 : 1 ≤ v) : IsBase h hs v (higher1 h hs v) := by
  have e : higher1 h hs v = (up h v).reverse.foldl (fun acc e => if (decide (0 < e) && decide (par hs v < par hs e)) = true then e else acc) 0 := by
    unfold higher1
    congr 1
    funext acc e
    by_cases c : 0 < e ∧ par hs v < par hs e
    · rw [if_pos c, if_pos (by simp [c.1, c.2])]
    · rw [if_neg c, if_neg (fun q => c (by simpa using q))]
  have ⟨i1, i2, _⟩ := fold_last (fun e => decide (0 < e) && decide (par hs v < par hs e)) (up h v).reverse 0 (up_asc H v) fun _ _ => Nat.zero_le _
  rw [← e] at i1 i2
  refine ⟨?_, ?_, fun x hx hlt => ?_⟩
  · rcases i1 with z | ⟨m, _⟩
    · rw [z]; exact up_has0 H v h1
    · exact List.mem_reverse.mp m
  · rcases i1 with z | ⟨_, q⟩
    · exact .inl z
    · simp at q; exact .inr q.2
  · by_cases c : par hs v < par hs x
    · have := i2 x (List.mem_reverse.mpr hx) (by simp; omega)
      omega
    · omega
theorem higher_len (h hs : List Nat) : (higher h hs).length = h.length := by
  unfold higher; rw [List.length_map, List.length_range]
theorem higher_at {h hs : List Nat} {i : Nat} (hi : i < h.length) : (higher h hs)[i]? = some (higher1 h hs (i + 1)) := by
  unfold higher
  rw [List.getElem?_map, List.getElem?_range hi]; rfl
theorem higher_par {h hs : List Nat} {v : Nat} (h1 : 1 ≤ v) (h2 : v ≤ h.length) : par (higher h hs) v = higher1 h hs v := by
  have q := higher_at (h := h) (hs := hs) (i := v - 1) (by omega)
  have := par_at q
  rw [show v - 1 + 1 = v by omega] at this
  exact this
theorem higher_is {h : List Nat} (H : Hist h) (hs : List Nat) {v : Nat} (h1 : 1 ≤ v) (h2 : v ≤ h.length) : IsBase h hs v (par (higher h hs) v) := by
  rw [higher_par h1 h2]; exact higher1_is H hs h1
theorem higher_bas {h : List Nat} (H : Hist h) (hs : List Nat) : Bas h (higher h hs) := Bas.of (higher_len h hs) fun v h1 h2 => (higher_is H hs h1 h2).mem
theorem eq_higher {h b hs : List Nat} (H : Hist h) (hl : b.length = h.length) (hb : ∀ v, 1 ≤ v → v ≤ h.length → IsBase h hs v (par b v)) : b = higher h hs :=
  ext_par (by rw [hl, higher_len]) fun v h1 h2 => (hb v h1 (by omega)).one (higher_is H hs h1 (by omega))
/-- A: bases by heights do not cross -/
theorem higher_plan {h : List Nat} (H : Hist h) (hs : List Nat) : Plan h (higher h hs) := by
  intro z v h1 h2 hv hv1 hlt
  have hvz := up_lt H _ _ hv
  have Z := higher_is H hs h1 h2
  have W := higher_is H hs (v := v) hv1 (by omega)
  generalize par (higher h hs) z = bz at *
  generalize par (higher h hs) v = bv at *
  by_cases c : bz ≤ bv
  · exact c
  · have i1 : bz ∈ up h v := up_comp H _ _ _ hv Z.mem hlt
    have n1 := W.near bz i1 (by omega)
    have n2 := Z.near v hv hlt
    rcases Z.high with e | e
    · omega
    · omega
/-! ### reads -/
theorem reads_len (b : List Nat) : ∀ acc : List Nat, (b.foldl (fun acc x => acc ++ [acc.getD x 0 + 1]) acc).length = acc.length + b.length := by
  induction b with
  | nil => intro acc; rfl
  | cons x b ih =>
    intro acc
    rw [List.foldl_cons, ih, List.length_append, List.length_cons, List.length_cons, List.length_nil]
    omega
theorem reads_keep (b : List Nat) : ∀ (acc : List Nat) (i : Nat), i < acc.length → (b.foldl (fun acc x => acc ++ [acc.getD x 0 + 1]) acc)[i]? = acc[i]? := by
  induction b with
  | nil => intro acc i _; rfl
  | cons x b ih =>
    intro acc i hi
    rw [List.foldl_cons, ih _ _ (by rw [List.length_append]; omega), List.getElem?_append_left hi]
theorem reads_length (b : List Nat) : (reads b).length = b.length + 1 := by
  unfold reads; rw [reads_len]; show 1 + b.length = _; omega
theorem reads_zero (b : List Nat) : (reads b)[0]? = some 0 := by
  unfold reads; rw [reads_keep _ _ _ (by show 0 < 1; omega)]; rfl
theorem reads_snoc (b : List Nat) (x : Nat) : reads (b ++ [x]) = reads b ++ [(reads b).getD x 0 + 1] := by
  unfold reads; rw [List.foldl_append]; rfl
/-- the reads of v: one more than those of its base -/
def rd (b : List Nat) (v : Nat) : Nat := (reads b).getD v 0
theorem rd_zero (b : List Nat) : rd b 0 = 0 := by
  unfold rd; rw [getD_getElem?, reads_zero]; rfl
theorem reads_take (b : List Nat) (i : Nat) (v : Nat) (hv : v ≤ i) (hi : i ≤ b.length) : (reads b)[v]? = (reads (b.take i))[v]? := by
  have e : b = b.take i ++ b.drop i := (List.take_append_drop i b).symm
  have hl : (reads (b.take i)).length = i + 1 := by rw [reads_length, List.length_take]; omega
  conv => lhs; rw [e]
  unfold reads
  rw [List.foldl_append]
  exact reads_keep _ _ _ (by show v < (reads (b.take i)).length; omega)
theorem rd_step {b : List Nat} (H : Hist b) {v : Nat} (h1 : 1 ≤ v) (h2 : v ≤ b.length) : rd b v = 1 + rd b (par b v) := by
  have q := par_some h1 h2
  have hlt := par_lt H h1
  have e2 : b.take v = b.take (v - 1) ++ [par b v] := by
    have : v = (v - 1) + 1 := by omega
    conv => lhs; rw [this]
    rw [List.take_add_one, q]; rfl
  have hl : (reads (b.take (v - 1))).length = v := by rw [reads_length, List.length_take]; omega
  unfold rd
  rw [getD_getElem?, getD_getElem?, reads_take b v v (Nat.le_refl _) h2, reads_take b (v - 1) (par b v) (by omega) (by omega), e2, reads_snoc, List.getElem?_append_right (by omega), hl]
  rw [Nat.sub_self, getD_getElem?, Nat.add_comm] <;> rfl
theorem most_ge (l : List Nat) : ∀ a : Nat, a ≤ l.foldl max a ∧ ∀ x ∈ l, x ≤ l.foldl max a := by
  induction l with
  | nil => intro a; exact ⟨Nat.le_refl _, fun x hx => by cases hx⟩
  | cons y l ih =>
    intro a
    rw [List.foldl_cons]
    have ⟨i1, i2⟩ := ih (max a y)
    refine ⟨by omega, fun x hx => ?_⟩
    rcases List.mem_cons.mp hx with e | m
    · omega
    · exact i2 x m
theorem most_mem (l : List Nat) : ∀ a : Nat, l.foldl max a = a ∨ l.foldl max a ∈ l := by
  induction l with
  | nil => intro a; exact .inl rfl
  | cons y l ih =>
    intro a
    rw [List.foldl_cons]
    rcases ih (max a y) with e | m
    · rw [e]
      rcases Nat.le_total a y with c | c
      · right; rw [Nat.max_eq_right c]; exact List.mem_cons_self
      · left; exact Nat.max_eq_left c
    · exact .inr (List.mem_cons_of_mem _ m)
theorem most_uniq {l : List Nat} {m : Nat} (hm : m ∈ l) (hx : ∀ x ∈ l, x ≤ m) : m = most l := by
  have ⟨_, i2⟩ := most_ge l 0
  have := i2 m hm
  rcases most_mem l 0 with e | q
  · have e' : most l = 0 := e
    have : m ≤ most l := this
    omega
  · have := hx _ q
    have e' : most l = l.foldl max 0 := rfl
    omega
theorem rd_le_most {b : List Nat} {v : Nat} : rd b v ≤ most (reads b) := by
  unfold rd
  rw [getD_getElem?]
  cases e : (reads b)[v]? with
  | none => exact Nat.zero_le _
  | some x => exact (most_ge (reads b) 0).2 x (List.mem_of_getElem? e)
theorem htsOf_len (b : List Nat) : (htsOf b).length = b.length := by
  unfold htsOf; rw [List.length_map, List.length_drop, reads_length]; omega
theorem htsOf_par {b : List Nat} {v : Nat} (h1 : 1 ≤ v) (h2 : v ≤ b.length) : par (htsOf b) v = most (reads b) + 1 - rd b v := by
  have q : (reads b)[v]? = some (rd b v) := by
    have : v < (reads b).length := by rw [reads_length]; omega
    unfold rd; rw [getD_getElem?, List.getElem?_eq_getElem this]; rfl
  have q2 : (htsOf b)[v - 1]? = some (most (reads b) + 1 - rd b v) := by
    unfold htsOf
    rw [List.getElem?_map, List.getElem?_drop, show 1 + (v - 1) = v by omega, q]; rfl
  have := par_at q2
  rw [show v - 1 + 1 = v by omega] at this
  exact this
theorem htsOf_hts {h b : List Nat} (B : Bas h b) : Hts h (htsOf b) := ⟨by rw [htsOf_len, B.1], fun x hx => by
  unfold htsOf at hx
  obtain ⟨r, hr, e⟩ := List.mem_map.mp hx
  have := (most_ge (reads b) 0).2 r (List.mem_of_mem_drop hr)
  have e' : most (reads b) = (reads b).foldl max 0 := rfl
  omega⟩
/-- B: a plan is the bases of its own heights -/
theorem plan_back {h b : List Nat} (H : Hist h) (B : Bas h b) (P : Plan h b) : higher h (htsOf b) = b := by
  have HB := B.hist H
  refine (eq_higher H B.1 fun v h1 h2 => ?_).symm
  have hv : v ≤ b.length := by rw [B.1]; exact h2
  have mv := B.mem h1 h2
  have lv := B.lt H h1 h2
  -- reads of what lies between
  have between : ∀ x, x ∈ up h v → par b v < x → rd b v ≤ rd b x := by
    intro x
    induction x using Nat.strongRecOn with
    | ind x ih =>
      intro hx hlt
      have hxv := up_lt H _ _ hx
      have h1x : 1 ≤ x := by omega
      have hxb : x ≤ b.length := by rw [B.1]; omega
      have pl := P v x h1 h2 hx h1x hlt
      have sx := rd_step HB h1x hxb
      have sv := rd_step HB h1 hv
      rcases Nat.lt_or_ge (par b v) (par b x) with c | c
      · have lx := B.lt H h1x (by omega)
        have := ih (par b x) lx (up_trans H _ _ _ hx (B.mem h1x (by omega))) c
        omega
      · have e : par b x = par b v := by omega
        rw [e] at sx; omega
  refine ⟨mv, ?_, fun x hx hlt => ?_⟩
  · by_cases c : par b v = 0
    · exact .inl c
    · right
      rw [htsOf_par h1 hv, htsOf_par (by omega) (by omega)]
      have sv := rd_step HB h1 hv
      have := rd_le_most (b := b) (v := v)
      omega
  · have hxv := up_lt H _ _ hx
    rw [htsOf_par h1 hv, htsOf_par (by omega) (by rw [B.1]; omega)]
    have := between x hx hlt
    omega
/-- C: the bases made from any bases: nearer, and no reads greater -/
theorem made_near {h b : List Nat} (H : Hist h) (B : Bas h b) {v : Nat} (h1 : 1 ≤ v) (h2 : v ≤ h.length) : par b v ≤ par (higher h (htsOf b)) v := by
  have HB := B.hist H
  have hv : v ≤ b.length := by rw [B.1]; exact h2
  have I := higher_is H (htsOf b) h1 h2
  have mv := B.mem h1 h2
  have lv := B.lt H h1 h2
  generalize par (higher h (htsOf b)) v = e at I
  rcases Nat.lt_or_ge e (par b v) with c | c
  · have := I.near _ mv c
    rw [htsOf_par h1 hv, htsOf_par (by omega) (by omega)] at this
    have sv := rd_step HB h1 hv
    have := rd_le_most (b := b) (v := v)
    omega
  · exact c
theorem made_reads {h b : List Nat} (H : Hist h) (B : Bas h b) : ∀ v, v ≤ h.length → rd (higher h (htsOf b)) v ≤ rd b v := by
  have HB := B.hist H
  have BP := higher_bas H (htsOf b)
  have HP := BP.hist H
  intro v
  induction v using Nat.strongRecOn with
  | ind v ih =>
    intro h2
    by_cases e : v = 0
    · rw [e, rd_zero]; exact Nat.zero_le _
    · have h1 : 1 ≤ v := by omega
      have hv : v ≤ b.length := by rw [B.1]; exact h2
      have I := higher_is H (htsOf b) h1 h2
      have sp := rd_step HP h1 (by rw [higher_len]; exact h2)
      have lp := BP.lt H h1 h2
      have ihp := ih _ lp (by omega)
      have sv := rd_step HB h1 hv
      generalize par (higher h (htsOf b)) v = p at *
      rcases I.high with z | z
      · rw [z, rd_zero] at sp
        omega
      · by_cases c : p = 0
        · rw [c, rd_zero] at sp; omega
        · rw [htsOf_par h1 hv, htsOf_par (by omega) (by omega)] at z
          have := rd_le_most (b := b) (v := v)
          have := rd_le_most (b := b) (v := p)
          omega
theorem made_iff {h b : List Nat} (H : Hist h) (B : Bas h b) : higher h (htsOf b) = b ↔ crossP h b = none := by
  rw [crossP_none H B]
  constructor
  · intro e
    have := higher_plan H (htsOf b)
    rw [e] at this
    exact this
  · exact plan_back H B
theorem higher_none {h : List Nat} (H : Hist h) (hs : List Nat) : crossP h (higher h hs) = none := (crossP_none H (higher_bas H hs)).mpr (higher_plan H hs)
theorem higher_back {h : List Nat} (H : Hist h) (hs : List Nat) : higher h (htsOf (higher h hs)) = higher h hs := plan_back H (higher_bas H hs) (higher_plan H hs)
/-- D: what orders alike gives the same bases -/
theorem higher_mono {h hs : List Nat} (H : Hist h) (hl : hs.length = h.length) (f : Nat → Nat) (hf : ∀ a b, a < b ↔ f a < f b) : higher h (hs.map f) = higher h hs := by
  refine eq_higher H (higher_len _ _) fun v h1 h2 => ?_
  have pm : ∀ x, 1 ≤ x → x ≤ h.length → par (hs.map f) x = f (par hs x) := fun x a b => by
    have q := par_some (l := hs) a (by omega)
    have q2 : (hs.map f)[x - 1]? = some (f (par hs x)) := by rw [List.getElem?_map, q]; rfl
    have := par_at q2
    rw [show x - 1 + 1 = x by omega] at this
    exact this
  have I := higher_is H (hs.map f) h1 h2
  generalize par (higher h (hs.map f)) v = e at I
  refine ⟨I.mem, ?_, fun x hx hlt => ?_⟩
  · rcases I.high with z | z
    · exact .inl z
    · by_cases c : e = 0
      · exact .inl c
      · have := up_lt H _ _ I.mem
        rw [pm v h1 h2, pm e (by omega) (by omega)] at z
        exact .inr ((hf _ _).mpr z)
  · have := I.near x hx hlt
    have hxv := up_lt H _ _ hx
    rw [pm v h1 h2, pm x (by omega) (by omega)] at this
    rcases Nat.lt_or_ge (par hs v) (par hs x) with c | c
    · have := (hf _ _).mp c
      omega
    · exact c

/-! ### writes -/
theorem bump_len (l : List Nat) (i : Nat) : (bump l i).length = l.length := List.length_set
theorem bumps_len (xs : List Nat) : ∀ l : List Nat, (bumps l xs).length = l.length := by
  induction xs with
  | nil => intro l; rfl
  | cons x xs ih =>
    intro l
    show (bumps (bump l x) xs).length = _
    rw [ih, bump_len]
theorem bumps_app (l xs ys : List Nat) : bumps l (xs ++ ys) = bumps (bumps l xs) ys := List.foldl_append
theorem bump_at (l : List Nat) (i j : Nat) (hj : j < l.length) : (bump l i).getD j 0 = l.getD j 0 + (if i = j then 1 else 0) := by
  unfold bump
  rw [getD_getElem?, List.getElem?_set]
  by_cases c : i = j
  · subst c
    rw [if_pos rfl, if_pos hj, if_pos rfl]; rfl
  · rw [if_neg c, if_neg c, getD_getElem?]; rfl
theorem bumps_at (xs : List Nat) : ∀ (l : List Nat) (j : Nat), j < l.length → (bumps l xs).getD j 0 = l.getD j 0 + xs.count j := by
  induction xs with
  | nil => intro l j _; rfl
  | cons x xs ih =>
    intro l j hj
    show (bumps (bump l x) xs).getD j 0 = _
    rw [ih _ _ (by rw [bump_len]; exact hj), bump_at _ _ _ hj, List.count_cons]
    by_cases c : x = j
    · subst c
      rw [if_pos rfl, if_pos (by simp)]; omega
    · rw [if_neg c, if_neg (by simpa using c)]; omega
theorem count_flatMap (f : Nat → List Nat) (a : Nat) : ∀ l : List Nat, (l.flatMap f).count a = (l.map fun i => (f i).count a).sum := by
  intro l
  induction l with
  | nil => rfl
  | cons x l ih => rw [List.flatMap_cons, List.count_append, List.map_cons, List.sum_cons, ih]
theorem sheet_perm {h b : List Nat} {z : Nat} : (sheet h b z).Perm (sheetL h b z) := by
  unfold sheet sheetL path
  rw [List.filter_filter]
  have e : (fun a => decide (par b z < a) && decide (0 < a)) = fun a => decide (par b z < a) := by
    funext a
    by_cases c : par b z < a
    · rw [decide_eq_true c, decide_eq_true (show 0 < a by omega)]; rfl
    · rw [decide_eq_false c]; rfl
  rw [e]
  exact (List.reverse_perm _).filter _
theorem count_pred {l : List Nat} (hl : ∀ x ∈ l, 1 ≤ x) (j : Nat) : (l.map fun e => e - 1).count j = l.count (j + 1) := by
  induction l with
  | nil => rfl
  | cons x l ih =>
    have hx := hl x List.mem_cons_self
    rw [List.map_cons, List.count_cons, List.count_cons, ih fun y hy => hl y (List.mem_cons_of_mem _ hy)]
    by_cases c : x = j + 1
    · subst c
      rw [if_pos (by simp), if_pos (by simp)]
    · rw [if_neg (by simp; omega), if_neg (by simpa using c)]
/-- how many sheets hold j + 1 -/
def wr (h b : List Nat) (j : Nat) : Nat := ((List.range h.length).map fun i => (sheetL h b (i + 1)).count (j + 1)).sum
theorem getD_replicate0 (n j : Nat) : (List.replicate n 0).getD j 0 = 0 := by
  rw [getD_getElem?, List.getElem?_replicate]
  by_cases c : j < n
  · rw [if_pos c]; rfl
  · rw [if_neg c]; rfl
theorem writesP_len (h b : List Nat) : (writesP h b).length = h.length := by
  unfold writesP; rw [List.length_drop, bumps_len, List.length_replicate]; omega
theorem writesL_len (h b : List Nat) : (writesL h b).length = h.length := by
  unfold writesL; rw [bumps_len, List.length_replicate]
theorem writesP_at {h b : List Nat} {j : Nat} (hj : j < h.length) : (writesP h b).getD j 0 = wr h b j := by
  unfold writesP
  rw [getD_getElem?, List.getElem?_drop, ← getD_getElem?, bumps_at _ _ _ (by rw [List.length_replicate]; omega), getD_replicate0, count_flatMap, Nat.zero_add, Nat.add_comm 1 j]
  unfold wr
  congr 1
  refine List.map_congr_left fun i _ => ?_
  exact sheet_perm.count_eq _
theorem writesL_at {h b : List Nat} {j : Nat} (hj : j < h.length) : (writesL h b).getD j 0 = wr h b j := by
  unfold writesL
  rw [bumps_at _ _ _ (by rw [List.length_replicate]; exact hj), getD_replicate0, count_flatMap, Nat.zero_add]
  unfold wr
  congr 1
  refine List.map_congr_left fun i _ => ?_
  refine count_pred (fun x hx => ?_) j
  have := (List.mem_filter.mp hx).2
  simp at this
  omega
theorem ext_getD {a b : List Nat} (hl : a.length = b.length) (h : ∀ j, j < a.length → a.getD j 0 = b.getD j 0) : a = b := by
  apply List.ext_getElem?
  intro i
  by_cases hi : i < a.length
  · have := h i hi
    rw [getD_getElem?, getD_getElem?, List.getElem?_eq_getElem hi, List.getElem?_eq_getElem (by omega)] at this
    rw [List.getElem?_eq_getElem hi, List.getElem?_eq_getElem (by omega)]
    exact congrArg some this
  · rw [List.getElem?_eq_none (by omega), List.getElem?_eq_none (by omega)]
theorem writes_eq (h b : List Nat) : writesP h b = writesL h b :=
  ext_getD (by rw [writesP_len, writesL_len]) fun j hj => by
    rw [writesP_len] at hj
    rw [writesP_at hj, writesL_at hj]
theorem sum_le {f g : Nat → Nat} : ∀ l : List Nat, (∀ x ∈ l, f x ≤ g x) → (l.map f).sum ≤ (l.map g).sum
  | [], _ => Nat.le_refl _
  | x :: l, h => by
    rw [List.map_cons, List.map_cons, List.sum_cons, List.sum_cons]
    have := h x List.mem_cons_self
    have := sum_le l fun y hy => h y (List.mem_cons_of_mem _ hy)
    omega
theorem count_filter_le {p q : Nat → Bool} (hpq : ∀ x, p x = true → q x = true) (l : List Nat) (a : Nat) : (l.filter p).count a ≤ (l.filter q).count a := by
  induction l with
  | nil => exact Nat.le_refl _
  | cons x l ih =>
    rw [List.filter_cons, List.filter_cons]
    by_cases c : p x = true
    · rw [if_pos c, if_pos (hpq x c), List.count_cons, List.count_cons]
      omega
    · rw [if_neg c]
      by_cases d : q x = true
      · rw [if_pos d, List.count_cons]; omega
      · rw [if_neg d]; exact ih
theorem made_writes {h b : List Nat} (H : Hist h) (B : Bas h b) (j : Nat) : wr h (higher h (htsOf b)) j ≤ wr h b j := by
  unfold wr
  refine sum_le _ fun i hi => ?_
  have hi' := List.mem_range.mp hi
  have := made_near H B (v := i + 1) (by omega) (by omega)
  unfold sheetL
  refine count_filter_le (fun x hx => ?_) _ _
  simp at hx ⊢
  omega

/-! ### chains -/
theorem chainF_fuel {b : List Nat} (H : Hist b) : ∀ (f v : Nat), v ≤ f → chainF b f v = chain b v := by
  intro f
  induction f using Nat.strongRecOn with
  | ind f ih =>
    intro v hv
    cases v with
    | zero =>
      cases f with
      | zero => rfl
      | succ f => show (if (0 : Nat) = 0 then _ else _) = _; rw [if_pos rfl]; rfl
    | succ v =>
      cases f with
      | zero => omega
      | succ f =>
        have hp := par_lt H (v := v + 1) (by omega)
        show (if v + 1 = 0 then [] else (v + 1) :: chainF b f (par b (v + 1))) = (if v + 1 = 0 then [] else (v + 1) :: chainF b v (par b (v + 1)))
        rw [if_neg (by omega), if_neg (by omega), ih f (by omega) _ (by omega), ih v (by omega) _ (by omega)]
theorem chain_zero (b : List Nat) : chain b 0 = [] := rfl
theorem chain_step {b : List Nat} (H : Hist b) {v : Nat} (h1 : 1 ≤ v) : chain b v = v :: chain b (par b v) := by
  cases v with
  | zero => omega
  | succ v =>
    have hp := par_lt H (v := v + 1) (by omega)
    show (if v + 1 = 0 then [] else (v + 1) :: chainF b v (par b (v + 1))) = _
    rw [if_neg (by omega), chainF_fuel H _ _ (by omega)]
theorem chain_len {b : List Nat} (H : Hist b) : ∀ v, v ≤ b.length → (chain b v).length = rd b v := by
  intro v
  induction v using Nat.strongRecOn with
  | ind v ih =>
    intro h2
    by_cases e : v = 0
    · rw [e, chain_zero, rd_zero]; rfl
    · have hp := par_lt H (v := v) (by omega)
      rw [chain_step H (by omega), List.length_cons, ih _ hp (by omega), rd_step H (by omega) h2]
      omega
/-- the heights of the records rise -/
def rising (l : List Nat) : Prop := ∀ i x y : Nat, l[i]? = some x → l[i + 1]? = some y → x < y
theorem chain_mem {b : List Nat} (H : Hist b) : ∀ v, ∀ x ∈ chain b v, 1 ≤ x ∧ x ≤ v := by
  intro v
  induction v using Nat.strongRecOn with
  | ind v ih =>
    intro x hx
    by_cases e : v = 0
    · rw [e, chain_zero] at hx; cases hx
    · have hp := par_lt H (v := v) (by omega)
      rw [chain_step H (by omega)] at hx
      rcases List.mem_cons.mp hx with z | z
      · omega
      · have := ih _ hp x z
        omega
theorem chain_rise {h hs : List Nat} (H : Hist h) : ∀ v, v ≤ h.length → rising ((chain (higher h hs) v).map (par hs)) := by
  have B := higher_bas H hs
  have HB := B.hist H
  intro v
  induction v using Nat.strongRecOn with
  | ind v ih =>
    intro h2 i x y hx hy
    by_cases e : v = 0
    · rw [e, chain_zero] at hx; cases hx
    · have h1 : 1 ≤ v := by omega
      have lp := B.lt H h1 h2
      have I := higher_is H hs h1 h2
      rw [chain_step HB h1, List.map_cons] at hx hy
      cases i with
      | zero =>
        rw [List.getElem?_cons_zero] at hx
        rw [List.getElem?_cons_succ] at hy
        have ex := Option.some.inj hx
        by_cases c : par (higher h hs) v = 0
        · rw [c, chain_zero] at hy; cases hy
        · rw [chain_step HB (by omega), List.map_cons, List.getElem?_cons_zero] at hy
          have ey := Option.some.inj hy
          rcases I.high with z | z
          · exact absurd z c
          · rw [← ex, ← ey]; exact z
      | succ i =>
        rw [List.getElem?_cons_succ] at hx hy
        exact ih _ lp (by omega) i x y hx hy
/-- the k-th of the chain, and where the walk stands behind k steps -/
def stepK (b : List Nat) : Nat → Nat → Nat
  | 0, v => v
  | k + 1, v => par b (stepK b k v)
theorem stepK_next (b : List Nat) (v : Nat) : ∀ k, stepK b k (par b v) = stepK b (k + 1) v
  | 0 => rfl
  | k + 1 => by
    show par b (stepK b k (par b v)) = par b (stepK b (k + 1) v)
    rw [stepK_next b v k]
theorem chain_at {b : List Nat} (H : Hist b) : ∀ v k, k < (chain b v).length → (chain b v)[k]? = some (stepK b k v) := by
  intro v
  induction v using Nat.strongRecOn with
  | ind v ih =>
    intro k hk
    by_cases e : v = 0
    · rw [e, chain_zero] at hk; cases hk
    · have hp := par_lt H (v := v) (by omega)
      rw [chain_step H (by omega)] at hk ⊢
      cases k with
      | zero => rfl
      | succ k =>
        rw [List.getElem?_cons_succ, ih _ hp k (by rw [List.length_cons] at hk; omega), stepK_next]
theorem hist_par {b : List Nat} {v : Nat} (H : Hist b) (h1 : 1 ≤ v) : par b v < v := par_lt H h1
end K58

/-! K58Base: the words of this proof: the text by places, what a def that may be called is, promises, small lemmas on values and heaps. -/
namespace K58
open PySem PySem.Spec PyProof.Rows L2
def topS (i : Nat) : Stmt := PySem.Challenge.pw_sincemarks_k58_whole_bases_by_heights.main.body.getD i (.Pass ⟨0, 0, 0, 0⟩)
/-- numbers as values -/
def vn (ns : List Nat) : List V := ns.map fun (n : Nat) => V.int (n : Int)
theorem vn_len (ns : List Nat) : (vn ns).length = ns.length := List.length_map _
theorem vn_get (ns : List Nat) (i : Nat) : (vn ns)[i]? = (ns[i]?).map fun (n : Nat) => V.int (n : Int) := List.getElem?_map
theorem vn_some {ns : List Nat} {i x : Nat} (h : ns[i]? = some x) : (vn ns)[i]? = some (.int (x : Int)) := by rw [vn_get, h]; rfl
theorem vn_of {ns : List Nat} {i : Nat} {v : V} (h : (vn ns)[i]? = some v) : ∃ x, ns[i]? = some x ∧ v = .int (x : Int) := by
  rw [vn_get] at h
  cases e : ns[i]? with
  | none => rw [e] at h; cases h
  | some x => rw [e] at h; exact ⟨x, rfl, (Option.some.inj h).symm⟩
theorem vn_app (a b : List Nat) : vn (a ++ b) = vn a ++ vn b := List.map_append
theorem vn_cons (a : Nat) (b : List Nat) : vn (a :: b) = .int (a : Int) :: vn b := rfl
theorem vn_snoc (a : List Nat) (x : Nat) : vn a ++ [.int (x : Int)] = vn (a ++ [x]) := by rw [vn_app]; rfl
theorem vn_rev (a : List Nat) : (vn a).reverse = vn a.reverse := List.map_reverse.symm
theorem vn_drop (a : List Nat) (n : Nat) : (vn a).drop n = vn (a.drop n) := List.map_drop.symm
theorem vn_take (a : List Nat) (n : Nat) : (vn a).take n = vn (a.take n) := List.map_take.symm
theorem vn_set (a : List Nat) (i x : Nat) : (vn a).set i (.int (x : Int)) = vn (a.set i x) := List.map_set.symm
theorem vn_rep (k x : Nat) : (List.replicate k [V.int (x : Int)]).flatten = vn (List.replicate k x) := by
  induction k with
  | zero => rfl
  | succ k ih => rw [List.replicate_succ, List.flatten_cons, ih, List.replicate_succ]; rfl
theorem vn_ints (ns : List Nat) : vn ns = (ns.map fun (n : Nat) => (n : Int)).map V.int := by unfold vn; rw [List.map_map]; rfl
theorem vn_flat (ns : List Nat) : (vn ns).all flatV = true := by
  induction ns with
  | nil => rfl
  | cons x ns ih => rw [vn_cons, List.all_cons, ih]; rfl
theorem int_eq (a b : Nat) : decide (V.int (a : Int) = V.int (b : Int)) = decide (a = b) := by
  by_cases c : a = b
  · subst c; rw [decide_eq_true rfl, decide_eq_true rfl]
  · rw [decide_eq_false c, decide_eq_false fun q => c (by injection q with q; omega)]
theorem vn_in (x : Nat) (ns : List Nat) : inV (.int (x : Int)) (vn ns) = ns.contains x := by
  unfold inV
  induction ns with
  | nil => rfl
  | cons y ns ih =>
    rw [vn_cons, List.any_cons, ih, List.contains_cons]
    congr 1
    show ((y : Int) == (x : Int)) = (x == y)
    by_cases c : x = y
    · subst c; simp
    · rw [beq_eq_false_iff_ne.mpr c]
      exact beq_eq_false_iff_ne.mpr (by omega)
/-- l[v - 1], v from 1 on -/
theorem par_ix {ns : List Nat} {v : Nat} (h1 : 1 ≤ v) (h2 : v ≤ ns.length) : atI (vn ns) ((v : Int) - 1) = some (.int (par ns v : Int)) :=
  at_of (j := v - 1) (by omega) (vn_some (par_some h1 h2))
theorem nat_ix {ns : List Nat} {v x : Nat} (h : ns[v]? = some x) : atI (vn ns) (v : Int) = some (.int (x : Int)) := atI_nat (vn_some h)
/-! ### heaps -/
theorem _root_.L2.Same.new {H : Hp} {p : Addr} {o : HO} (h : H p = none) : Same H (upd H p o) := fun b x e => by
  rw [upd_ne (ne_of_none e h)]; exact e
theorem _root_.L2.Same.mut {H H' : Hp} {p : Addr} {o : HO} (e : Same H H') (h : H p = none) : Same H (upd H' p o) := fun b x q => by
  rw [upd_ne (ne_of_none q h)]; exact e b x q
theorem _root_.L2.Same.t {K : PySem.W.Frag} {H H' : Hp} {a : Addr} {xs : List V} (e : Same H H') (h : SqT K H a xs) : SqT K H' a xs := by
  rcases h with (h | ⟨o, h⟩) | h
  · exact .inl (.inl (e _ _ h))
  · exact .inl (.inr ⟨o, e _ _ h⟩)
  · exact .inr h
def RetV (v : V) (H : Hp) (Q : VK) : Prop := ∀ H', Same H H' → Q v H'
def RetL (xs : List V) (H : Hp) (Q : VK) : Prop := ∀ p H', H p = none → Same H H' → H' p = some (.lst xs) → Q (.ref p) H'
def RetT (xs : List V) (H : Hp) (Q : VK) : Prop := ∀ p H', H p = none → Same H H' → H' p = some (.tup xs) → Q (.ref p) H'
theorem sizeOk {n : Nat} (h : n ≤ 100000) : n ≤ sizeLine := Nat.le_trans h (by decide)
theorem sizeLt {n : Nat} (h : n < 100000) : n < sizeLine := Nat.lt_of_lt_of_le h (by decide)
theorem take_snoc {α : Type} {l : List α} {i : Nat} {x : α} (h : l[i]? = some x) : l.take (i + 1) = l.take i ++ [x] := by
  rw [List.take_add_one, h]; rfl
theorem filt_yes {α : Type} {p : α → Bool} {l : List α} {i : Nat} {x : α} (h : l[i]? = some x) (hp : p x = true) : (l.take (i + 1)).filter p = (l.take i).filter p ++ [x] := by
  rw [take_snoc h, List.filter_append, List.filter_cons, if_pos hp]; rfl
theorem filt_no {α : Type} {p : α → Bool} {l : List α} {i : Nat} {x : α} (h : l[i]? = some x) (hp : ¬ p x = true) : (l.take (i + 1)).filter p = (l.take i).filter p := by
  rw [take_snoc h, List.filter_append, List.filter_cons, if_neg hp, List.filter_nil, List.append_nil]
theorem find_some_at {α : Type} {p : α → Bool} : ∀ {l : List α} {i : Nat} {x : α}, l[i]? = some x → p x = true → (∀ j y, j < i → l[j]? = some y → p y = false) → l.find? p = some x
  | [], i, x, h, _, _ => by simp at h
  | y :: l, 0, x, h, hp, _ => by
    have e : y = x := Option.some.inj h
    rw [e, List.find?_cons, hp]
  | y :: l, i + 1, x, h, hp, hb => by
    have e := hb 0 y (by omega) rfl
    rw [List.find?_cons, e]
    exact find_some_at (i := i) h hp fun j z hj hz => hb (j + 1) z (by omega) hz
theorem find_none_all {α : Type} {p : α → Bool} {l : List α} (hb : ∀ j y, j < l.length → l[j]? = some y → p y = false) : l.find? p = none := by
  rw [List.find?_eq_none]
  intro x hx
  obtain ⟨i, hi, e⟩ := List.getElem_of_mem hx
  rw [hb i x hi (by rw [List.getElem?_eq_getElem hi, e])]
  exact Bool.false_ne_true
theorem filt_take_len {α : Type} (p : α → Bool) (l : List α) (i : Nat) : ((l.take i).filter p).length ≤ l.length := by
  have h1 := List.length_filter_le p (l.take i)
  have h2 := List.length_take_le' i l
  omega
theorem cut1 (xs : List V) : cutV xs (some 1) none = xs.drop 1 := by
  unfold cutV
  rw [show HT.sIx xs.length 0 (some 1) = min 1 xs.length from HT.sIx_nat xs.length 0 1, HT.sIx_none]
  cases xs with
  | nil => rfl
  | cons x r =>
    rw [show min 1 (x :: r).length = 1 by rw [List.length_cons]; omega]
    show (List.take ((x :: r).length - 1) r) = r
    rw [List.length_cons, Nat.add_sub_cancel]
    exact List.take_length
/-! ### tuples of numbers as data -/
def ids (ns : List Nat) : List PyData := ns.map fun (n : Nat) => PyData.int (n : Int)
def td (ns : List Nat) : PyData := .tuple (ids ns)
theorem dp_vn {K : PySem.W.Frag} {H : Hp} : ∀ ns : List Nat, DpAll K H (vn ns) (ids ns)
  | [] => .nil
  | n :: ns => .cons (.int (n : Int)) (dp_vn ns)
theorem dp_tup {K : PySem.W.Frag} {H : Hp} {a : Addr} {ns : List Nat} (h : SqT K H a (vn ns)) : Dp K H (.ref a) (td ns) := .tup h (dp_vn ns)
theorem lay_ids : ∀ ns : List Nat, PyData.canLayAll0 (ids ns) = true
  | [] => by simp only [ids, List.map_nil, PyData.canLayAll0]
  | n :: ns => by
    have h := lay_ids ns
    unfold ids at h ⊢
    rw [List.map_cons]
    simp only [PyData.canLayAll0, PyData.canLay0, h, Bool.and_self]
theorem depth_ids : ∀ ns : List Nat, PyData.depthAll (ids ns) = 0
  | [] => by simp only [ids, List.map_nil, PyData.depthAll]
  | n :: ns => by
    have h := depth_ids ns
    unfold ids at h ⊢
    rw [List.map_cons]
    simp only [PyData.depthAll, PyData.depth, h, Nat.max_self]
theorem shaped_td (ns : List Nat) : SeqAt.shaped (td ns) = true := by
  unfold SeqAt.shaped td
  have h1 : (PyData.tuple (ids ns)).canLay0 = true := by simp only [PyData.canLay0, lay_ids]
  have h2 : (PyData.tuple (ids ns)).depth = 1 := by simp only [PyData.depth, depth_ids]
  rw [h1, h2]; rfl
theorem eqv_ids : ∀ ns ms : List Nat, PyData.eqvAll (ids ns) (ids ms) = decide (ns = ms)
  | [], [] => by simp only [ids, List.map_nil, PyData.eqvAll, decide_true]
  | [], m :: ms => by
    unfold ids
    rw [List.map_nil, List.map_cons]
    simp only [PyData.eqvAll]
    exact (decide_eq_false (fun h => by cases h)).symm
  | n :: ns, [] => by
    unfold ids
    rw [List.map_nil, List.map_cons]
    simp only [PyData.eqvAll]
    exact (decide_eq_false (fun h => by cases h)).symm
  | n :: ns, m :: ms => by
    have h := eqv_ids ns ms
    unfold ids at h ⊢
    rw [List.map_cons, List.map_cons]
    simp only [PyData.eqvAll, PyData.eqv, h]
    by_cases c : n = m
    · subst c
      by_cases d : ns = ms
      · subst d
        rw [decide_eq_true rfl, decide_eq_true rfl]; simp
      · rw [decide_eq_false d, decide_eq_false (fun e => d (List.cons.inj e).2)]; simp
    · rw [decide_eq_false (fun e => c (List.cons.inj e).1)]
      have : ((n : Int) == (m : Int)) = false := beq_eq_false_iff_ne.mpr (by omega)
      rw [this]; rfl
theorem eqv_td (ns ms : List Nat) : PyData.eqv (td ns) (td ms) = decide (ns = ms) := by
  unfold td
  rw [PyData.eqv]
  exact eqv_ids ns ms
/-! ### defs -/
/-- a def of the text, behind the top -/
structure Dn (K : PySem.W.Frag) (mg : Str → Option Value) (x : Str) (st : Stmt) (ps : List Str) : Prop where
  ex : ∃ (f : Addr) (fd : FuncData), Fun K x x st f fd ∧ mg x = some (.ref f) ∧ Binds K fd ps []
/-- a def that may be called: it keeps its promise -/
structure Ok (P : Program) (w : World) (K : PySem.W.Frag) (mg : Str → Option Value) (base : Heap) (x : Str) (ps : List Str) (k : Nat) (sp : Sp) : Prop where
  ex : ∃ (f : Addr) (fd : FuncData), mg x = some (.ref f) ∧ PySem.W.keepIn K (.ref f) = true ∧ Binds K fd ps [] ∧ FnOk P w K mg base CX0 k f fd ps sp
/-- the built-in names -/
structure Bl (mg : Str → Option Value) : Prop where
  n_len : mg "len" = none
  n_tuple : mg "tuple" = none
  n_list : mg "list" = none
  n_int : mg "int" = none
  n_bool : mg "bool" = none
  n_isinstance : mg "isinstance" = none
  n_range : mg "range" = none
  n_reversed : mg "reversed" = none
  n_zip : mg "zip" = none
  n_enumerate : mg "enumerate" = none
  n_all : mg "all" = none
  n_max : mg "max" = none
  n_abs : mg "abs" = none
  n_sorted : mg "sorted" = none
  n_set : mg "set" = none
theorem blT {p : Prop} [Decidable p] (h : p) : V.bl (decide p) = V.bl true := congrArg V.bl (decide_eq_true h)
theorem blF {p : Prop} [Decidable p] (h : ¬ p) : V.bl (decide p) = V.bl false := congrArg V.bl (decide_eq_false h)
theorem tyx_tup {K : PySem.W.Frag} {H : Hp} {a : Addr} {xs : List V} (h : SqT K H a xs) : TyX K H (.ref a) (.type "tuple") := by
  rcases h with (h | ⟨o, h⟩) | ⟨o, its, m, hk, hc, _⟩
  · exact .base (.tup h)
  · exact .fTuple h
  · exact .kTuple hk hc
theorem kit_ii {K : PySem.W.Frag} : PySem.W.kitOne K (.type "int") (.type "int") = some true := kit_ty (by decide +kernel)
theorem kit_ib {K : PySem.W.Frag} : PySem.W.kitOne K (.type "int") (.type "bool") = some false := kit_ty (by decide +kernel)
theorem kit_bb {K : PySem.W.Frag} : PySem.W.kitOne K (.type "bool") (.type "bool") = some true := kit_ty (by decide +kernel)
theorem kit_tt {K : PySem.W.Frag} : PySem.W.kitOne K (.type "tuple") (.type "tuple") = some true := kit_ty (by decide +kernel)
end K58

/-! K58A: the small defs: kinds, check_version, many_of, _upward. -/
namespace K58
open PySem PySem.Spec PyProof.Rows L2
abbrev s_is_integer : Stmt := topS 5
abbrev N_is_integer : List Str := ["thing"]
theorem sc_is_integer : FnScope N_is_integer ["thing"] (defScope s_is_integer) := ⟨rfl, rfl, rfl, by decide +kernel, rfl, by decide +kernel, by decide +kernel⟩
abbrev s_is_number : Stmt := topS 6
abbrev N_is_number : List Str := ["thing"]
theorem sc_is_number : FnScope N_is_number ["thing"] (defScope s_is_number) := ⟨rfl, rfl, rfl, by decide +kernel, rfl, by decide +kernel, by decide +kernel⟩
abbrev s_is_natural : Stmt := topS 7
abbrev N_is_natural : List Str := ["thing"]
theorem sc_is_natural : FnScope N_is_natural ["thing"] (defScope s_is_natural) := ⟨rfl, rfl, rfl, by decide +kernel, rfl, by decide +kernel, by decide +kernel⟩
abbrev s_check_version : Stmt := topS 9
abbrev N_check_version : List Str := ["history", "name", "thing", "least"]
theorem sc_check_version : FnScope N_check_version ["history", "name", "thing", "least"] (defScope s_check_version) := ⟨rfl, rfl, rfl, by decide +kernel, rfl, by decide +kernel, by decide +kernel⟩
abbrev s_many_of : Stmt := topS 11
abbrev N_many_of : List Str := ["history"]
theorem sc_many_of : FnScope N_many_of ["history"] (defScope s_many_of) := ⟨rfl, rfl, rfl, by decide +kernel, rfl, by decide +kernel, by decide +kernel⟩
abbrev s_upward : Stmt := topS 12
abbrev N_upward : List Str := ["history", "version", "found"]
theorem sc_upward : FnScope N_upward ["history", "version"] (defScope s_upward) := ⟨rfl, rfl, rfl, by decide +kernel, rfl, by decide +kernel, by decide +kernel⟩
section
variable {P : Program} {w : World} {K : PySem.W.Frag} {mg : Str → Option Value} {base : Heap}
def spIsInt : Sp := fun vs H Q _ => ∃ i : Int, vs = [.int i] ∧ Q (.bl true) H
theorem ok_is_integer (B : Bl mg) (D : Dn K mg "is_integer" s_is_integer ["thing"]) : Ok P w K mg base "is_integer" ["thing"] 1 spIsInt := by
  obtain ⟨f, fd, F, g, b⟩ := D.ex
  have sc := sc_is_integer
  refine ⟨f, fd, g, F.kp, b, F.ok sc (fun vs H Q E h => ?_) (fun cdv A outer s H vs Q E hr h => ?_)⟩
  · obtain ⟨i, rfl, _⟩ := h
    rfl
  · obtain ⟨i, rfl, k⟩ := h
    refine ⟨_, (pss_one (ps_ret (pe_and (pe_callB call_isi (by rfl) B.n_isinstance (by decide +kernel) (pa_cons (pv 0) (pa_cons (pe_bltn (v := .ty "int") (by rfl) B.n_int (by decide +kernel) rfl) pa_nil))) (pe_one (pe_not (pe_callB call_isi (by rfl) B.n_isinstance (by decide +kernel) (pa_cons (pv 0) (pa_cons (pe_bltn (v := .ty "bool") (by rfl) B.n_bool (by decide +kernel) rfl) pa_nil)))))))), ?_⟩
    refine ⟨_, rfl, _, _, _, _, true, rfl, .ty _, .base (.int i), kit_ii, true, rfl, iteT ⟨_, rfl, _, _, _, _, false, rfl, .ty _, .base (.int i), kit_ib, false, rfl, k⟩⟩
def spIsNum (c : Int) : Sp := fun vs H Q _ => ∃ i : Int, vs = [.int i] ∧ c ≤ i ∧ Q (.bl true) H
theorem ok_is_number (B : Bl mg) (D : Dn K mg "is_number" s_is_number ["thing"]) (C : Ok P w K mg base "is_integer" ["thing"] 1 spIsInt) : Ok P w K mg base "is_number" ["thing"] 2 (spIsNum 0) := by
  obtain ⟨f, fd, F, g, b⟩ := D.ex
  obtain ⟨f_is_integer, fd_is_integer, g_is_integer, k_is_integer, b_is_integer, G_is_integer⟩ := C.ex
  have sc := sc_is_number
  refine ⟨f, fd, g, F.kp, b, F.ok sc (fun vs H Q E h => ?_) (fun cdv A outer s H vs Q E hr h => ?_)⟩
  · obtain ⟨i, rfl, _⟩ := h
    rfl
  · obtain ⟨i, rfl, hi, k⟩ := h
    refine ⟨_, (pss_one (ps_ret (pe_and (pe_call G_is_integer (hr.mono (by decide)) (by rfl) g_is_integer k_is_integer b_is_integer .nil pass0 (pa_cons (pv 0) pa_nil)) (pe_one (pe_cmpR op_ge (pv 0) pe_int (nomark _)))))), ?_⟩
    refine ⟨_, rfl, i, rfl, true, rfl, iteT ⟨_, rfl, _, _, rfl, rfl, ?_⟩⟩
    show Q (V.bl (decide (_ ≤ i))) H
    rw [decide_eq_true hi]
    exact k
theorem ok_is_natural (B : Bl mg) (D : Dn K mg "is_natural" s_is_natural ["thing"]) (C : Ok P w K mg base "is_integer" ["thing"] 1 spIsInt) : Ok P w K mg base "is_natural" ["thing"] 2 (spIsNum 1) := by
  obtain ⟨f, fd, F, g, b⟩ := D.ex
  obtain ⟨f_is_integer, fd_is_integer, g_is_integer, k_is_integer, b_is_integer, G_is_integer⟩ := C.ex
  have sc := sc_is_natural
  refine ⟨f, fd, g, F.kp, b, F.ok sc (fun vs H Q E h => ?_) (fun cdv A outer s H vs Q E hr h => ?_)⟩
  · obtain ⟨i, rfl, _⟩ := h
    rfl
  · obtain ⟨i, rfl, hi, k⟩ := h
    refine ⟨_, (pss_one (ps_ret (pe_and (pe_call G_is_integer (hr.mono (by decide)) (by rfl) g_is_integer k_is_integer b_is_integer .nil pass0 (pa_cons (pv 0) pa_nil)) (pe_one (pe_cmpR op_ge (pv 0) pe_int (nomark _)))))), ?_⟩
    refine ⟨_, rfl, i, rfl, true, rfl, iteT ⟨_, rfl, _, _, rfl, rfl, ?_⟩⟩
    show Q (V.bl (decide (_ ≤ i))) H
    rw [decide_eq_true hi]
    exact k
/-- check_version(history, name, thing), least 0: it holds -/
def spCheck (K : PySem.W.Frag) : Sp := fun vs H Q _ => ∃ (a : Addr) (h : List Nat) (n : Str) (v : Nat), vs = [.ref a, .str n, .int (v : Int), .int 0] ∧ SqT K H a (vn h) ∧ v ≤ h.length ∧ Q .non H
structure OkD (P : Program) (w : World) (K : PySem.W.Frag) (mg : Str → Option Value) (base : Heap) (x : Str) (ps : List Str) (k : Nat) (sp : Sp) : Prop where
  ex : ∃ (f : Addr) (fd : FuncData) (ds : List Value), mg x = some (.ref f) ∧ PySem.W.keepIn K (.ref f) = true ∧ Vals [.int 0] ds ∧ Binds K fd ps ds ∧ FnOk P w K mg base CX0 k f fd ps sp
structure DnD (K : PySem.W.Frag) (mg : Str → Option Value) (x : Str) (st : Stmt) (ps : List Str) : Prop where
  ex : ∃ (f : Addr) (fd : FuncData) (ds : List Value), FunD K x x (defArgs st) (defBody st) (defScope st) [.int 0] [] f fd ∧ mg x = some (.ref f) ∧ Vals [.int 0] ds ∧ Binds K fd ps ds
theorem ok_check_version (B : Bl mg) (D : DnD K mg "check_version" s_check_version ["history", "name", "thing", "least"]) (C : Ok P w K mg base "is_number" ["thing"] 2 (spIsNum 0)) : OkD P w K mg base "check_version" ["history", "name", "thing", "least"] 3 (spCheck K) := by
  obtain ⟨f, fd, ds, F, g, hv, b⟩ := D.ex
  obtain ⟨f_is_number, fd_is_number, g_is_number, k_is_number, b_is_number, G_is_number⟩ := C.ex
  have sc := sc_check_version
  refine ⟨f, fd, ds, g, F.kp, hv, b, F.ok sc (fun vs H Q E h => ?_) (fun cdv A outer s H vs Q E hr h => ?_)⟩
  · obtain ⟨a, l, n, v, rfl, _⟩ := h
    rfl
  · obtain ⟨a, l, n, v, rfl, hS, hv, k⟩ := h
    refine ⟨_, (pss_one (ps_if (PW.pt (pw_or (pt_not (pt_val (pe_call G_is_number (hr.mono (by decide)) (by rfl) g_is_number k_is_number b_is_number .nil pass0 (pa_cons (pv 2) pa_nil)))) (pw_or1 (pt_not (pt_chain op_le op_le (pv 3) (pv 2) (pe_callB call_len_seq (by rfl) B.n_len PySem.boot_len (pa_cons (pv 0) pa_nil))))))) (pss_one ps_never) pss_nil)), ?_⟩
    refine ⟨_, rfl, (v : Int), rfl, by omega, true, rfl, iteF ?_⟩
    refine ⟨.int 0, rfl, .int (v : Int), rfl, 0, (v : Int), rfl, rfl, true, blT (show (0 : Int) ≤ (v : Int) by omega), ?_⟩
    refine iteT ⟨.ref a, rfl, a, vn l, rfl, .inr hS, (v : Int), _, rfl, rfl, true, blT (show (v : Int) ≤ ((vn l).length : Int) by rw [vn_len]; omega), iteF k⟩
def spMany (K : PySem.W.Frag) : Sp := fun vs H Q _ => ∃ (a : Addr) (h : List Nat), vs = [.ref a] ∧ SqT K H a (vn h) ∧ Q (.int (h.length : Int)) H
theorem ok_many_of (B : Bl mg) (D : Dn K mg "many_of" s_many_of ["history"]) : Ok P w K mg base "many_of" ["history"] 1 (spMany K) := by
  obtain ⟨f, fd, F, g, b⟩ := D.ex
  have sc := sc_many_of
  refine ⟨f, fd, g, F.kp, b, F.ok sc (fun vs H Q E h => ?_) (fun cdv A outer s H vs Q E hr h => ?_)⟩
  · obtain ⟨a, l, rfl, _⟩ := h
    rfl
  · obtain ⟨a, l, rfl, hS, k⟩ := h
    refine ⟨_, (pss_one (ps_ret (pe_callB call_len_seq (by rfl) B.n_len PySem.boot_len (pa_cons (pv 0) pa_nil)))), ?_⟩
    refine ⟨_, rfl, a, vn l, rfl, .inr hS, ?_⟩
    show Q (V.int ((vn l).length : Int)) H
    rw [vn_len]
    exact k
/-- _upward(history, version): a new list of the elders -/
def spUp (K : PySem.W.Frag) : Sp := fun vs H Q _ => ∃ (a : Addr) (h : List Nat) (v : Nat), vs = [.ref a, .int (v : Int)] ∧ SqT K H a (vn h) ∧ Hist h ∧ v ≤ h.length ∧ h.length ≤ 40 ∧ RetL (vn (up h v)) H Q
theorem ok_upward (B : Bl mg) (D : Dn K mg "_upward" s_upward ["history", "version"]) : Ok P w K mg base "_upward" ["history", "version"] 1 (spUp K) := by
  obtain ⟨f, fd, F, g, b⟩ := D.ex
  have sc := sc_upward
  refine ⟨f, fd, g, F.kp, b, F.ok sc (fun vs H Q E h => ?_) (fun cdv A outer s H vs Q E hr h => ?_)⟩
  · obtain ⟨a, l, v, rfl, _⟩ := h
    rfl
  · obtain ⟨a, l, v, rfl, hS, hH, hv, hl, k⟩ := h
    refine ⟨_, (pss_cons (ps_set (i := 2) sc.nd rfl (Or.inl rfl) (pe_lst pa_nil))
    (pss_cons (ps_while PassesOwn.never (pt_cmpR op_gt (pv 1) pe_int (nomark _)) (pss_cons (ps_set (i := 1) sc.nd rfl (Or.inl rfl) (pe_ix ix_tup (pv 0) (pe_op op_sub (pv 1) pe_int) (fun _ _ => rfl)))
    (pss_one (ps_expr (pe_bm PySem.F.plainAttrs_list PySem.F.slot_list_append PySem.F.type_list_append mt_append (pv 2) (pa_cons (pv 1) pa_nil))))))
    (pss_one (ps_ret (pv 2))))), ?_⟩
    refine ⟨Nat.zero_le _, fun p np => ?_⟩
    refine ⟨fun m σ H1 => ∃ (u : Nat) (done : List Nat), m = u ∧ σ = [some (.ref a), some (.int (u : Int)), some (.ref p)] ∧ u ≤ l.length ∧ done ++ up l u = up l v ∧ Same H H1 ∧ H1 p = some (.lst (vn done)),
      ⟨v, v, [], rfl, rfl, hv, rfl, Same.new np, upd_same⟩, fun m σ H1 hW => ?_⟩
    obtain ⟨_, done, rfl, rfl, hu, hd, sm, hp⟩ := hW
    refine ⟨_, rfl, _, _, rfl, rfl, _, rfl, ?_⟩
    refine ite2 (fun c => ?_) (fun c => ?_)
    · have c1 : 1 ≤ m := by have := of_decide_eq_true c; omega
      have hlt := par_lt hH c1
      refine ⟨fun σ' H' => ∃ (u' : Nat) (done' : List Nat), u' < m ∧ σ' = [some (.ref a), some (.int (u' : Int)), some (.ref p)] ∧ u' ≤ l.length ∧ done' ++ up l u' = up l v ∧ Same H H' ∧ H' p = some (.lst (vn done')), fun σ' H' ⟨u', d', h1, h2, h3, h4, h5, h6⟩ => ⟨u', h1, u', d', rfl, h2, h3, h4, h5, h6⟩, ?_⟩
      refine ⟨.ref a, rfl, .int (m : Int), rfl, _, _, rfl, rfl, a, _, _, _, rfl, rfl, sm.t hS, par_ix c1 hu, ?_⟩
      have el : done.length ≤ 40 := by
        have := congrArg List.length hd
        rw [List.length_append] at this
        have := up_len hH v
        omega
      refine ⟨.ref p, rfl, .inl ⟨rfl, _, SqL.of hp⟩, .int (par l m : Int), rfl, p, _, _, rfl, rfl, hp, ?_, ?_⟩
      · rw [vn_len]; exact sizeLt (by omega)
      · refine ⟨par l m, done ++ [par l m], hlt, rfl, by omega, ?_, Same.mut sm np, ?_⟩
        · rw [List.append_assoc, List.singleton_append, ← up_step hH c1]
          exact hd
        · rw [upd_same, vn_snoc]
    · have c0 : m = 0 := by
        by_cases z : m = 0
        · exact z
        · exact absurd (decide_eq_true (show (0 : Int) < (m : Int) by omega)) c
      subst c0
      rw [up_zero, List.append_nil] at hd
      subst hd
      exact ⟨_, rfl, k p H1 np sm hp⟩
end
end K58

/-! K58Rules: four rules that the layer lacks: enumerate over a tuple, max of a tuple, l[i] += e on a list, l[::2] on a list. -/
namespace K58
open PySem PySem.Spec PyProof.Rows L2
/-! ### enumerate(t), t a tuple -/
theorem enum1_new {v : Value} {ob : Obj} {C : Heap → Prop} (B : Begins v ob C) :
    Meets (Builtin.«enumerate.__new__» ⟨[.type "enumerate", v], []⟩) (fun _ R z => C z.heap ∧
      R (.ok (.ret (.ref (z.heap.push ob).objs.size))) { z with heap := Heap.push (z.heap.push ob) { cls := .type "enumerate", data := .fields #[.none, .bool false, .ref z.heap.objs.size, rawInt 0, .none, .none] } }) :=
  .of_wp fun prog w A R z hz => by
    obtain ⟨hp, gs, dr, tk, sys⟩ := z
    obtain ⟨c1, fin⟩ := hz
    have subE := sub_enumerate
    have begun : ∀ {A' : Around} {E' : Value → Shared → Prop} {Q' : Value → Shared → Prop}, Q' (.ref hp.objs.size) ⟨hp.push ob, gs, dr, tk, sys⟩ → wpAny (model prog w) A' (pyIter v) Q' E' ⟨hp, gs, dr, tk, sys⟩ :=
      fun q' => B.iter prog w _ _ ⟨hp, gs, dr, tk, sys⟩ _ c1 q'
    wp_walk using begun
    refine wpAny_stack_any fun _ => wpAny_pure ?_
    split
    · rename_i c _ _ _ _ _
      cases (c == Value.type "enumerate")
      all_goals
        wp_walk using begun
        exact ⟨_, rfl, fin⟩
    · wp_walk using begun
      exact ⟨_, rfl, fin⟩
section
variable {prog : Program} {w : World} {A : Around} {E : Value → Shared → Prop} {s : Shared}
theorem call_enum1 {v : Value} {ob : Obj} {C : Heap → Prop} {Q : Value → Shared → Prop} (B : Begins v ob C) (c1 : C s.heap)
    (fin : ∀ g, IsEnum g (s.heap.objs.size + 1) s.heap.objs.size 0 .none → g.get? s.heap.objs.size = some ob → (∀ c u, s.heap.get? c = some u → g.get? c = some u) → Q (.ref (s.heap.objs.size + 1)) { s with heap := g }) :
    wpAny (model prog w) A (call (.type "enumerate") [v]) Q E s := by
  have size1 : (s.heap.push ob).objs.size = s.heap.objs.size + 1 := Heap.size_push ..
  have made : IsEnum (Heap.push (s.heap.push ob) { cls := .type "enumerate", data := .fields #[.none, .bool false, .ref s.heap.objs.size, rawInt 0, .none, .none] }) (s.heap.objs.size + 1) s.heap.objs.size 0 .none := by
    have := Heap.get?_push_size (s.heap.push ob) (o := { cls := .type "enumerate", data := .fields #[.none, .bool false, .ref s.heap.objs.size, rawInt 0, .none, .none] }) rfl
    rw [size1] at this
    exact this
  refine callType_new F.called_enumerate (by decide) (F.typeCall_enumerate_1 _) (F.newCall_enumerate_1 _) (fun u => F.args_object_init_2 u _) F.entry_enumerate_new (enum1_new B) ⟨c1, ?_⟩
  show _ ∧ _
  rw [size1]
  exact ⟨⟨_, made, rfl⟩, fin _ made (Heap.get?_push_of_some _ (Heap.get?_push_size _ B.free)) fun c u q => Heap.get?_push_of_some _ (Heap.get?_push_of_some _ q)⟩
end
/-- the tuple at a, each item in a new pair with its place -/
def IteT (K : PySem.W.Frag) (a : Addr) : It :=
  ⟨fun i H => ∃ (xs : List V) (x : V), SqT K H a xs ∧ xs[i]? = some x,
   fun i H v H' => ∃ T x, v = .ref T ∧ H T = none ∧ H' = upd H T (.tup [.int (i : Nat), x]) ∧ ∀ xs, SqT K H a xs → xs[i]? = some x,
   fun i H => ∃ xs : List V, SqT K H a xs ∧ xs.length = i⟩
theorem turn_enumT {P : Program} {w : World} {K : PySem.W.Frag} {elts : List Expr} {kk : Nat} {tpos : Pos} (a e it : Addr) :
    Turn P w K (.Tuple elts kk tpos) (IteT K a) [e, it] e (fun i g => (∃ old, IsEnum g e it ((i : Nat) : Int) old) ∧ g.IsTupleIter it a i ∧ e ≠ it ∧ a ≠ it ∧ a ≠ e) where
  mem := by simp
  obj := fun i g st c hc => by
    obtain ⟨⟨old, he⟩, ⟨o, ho, _, hd⟩, _⟩ := st
    rcases (show c = e ∨ c = it by simpa using hc) with z | z
    · rw [z]; exact ⟨_, he, fun v q => nomatch q⟩
    · rw [z]; exact ⟨o, ho, fun v q => by rw [hd] at q; cases q⟩
  keep := fun i g g' st k => let ⟨⟨old, he⟩, hi, r⟩ := st; ⟨⟨old, k e (by simp) _ he⟩, hi.at fun o q => k it (by simp) o q, r⟩
  item := by
    intro X hP hw hK hc i pins s σ H E I hf st hg
    subst hP hw hK
    obtain ⟨⟨old, he⟩, hit, hne, hai, hae⟩ := st
    obtain ⟨xs, x, hq, hx⟩ := hg
    obtain ⟨its, rv, p, hz⟩ := I.tuple hq
    obtain ⟨u, hu, ru⟩ := rv.get hx
    have le1 : e < s.heap.objs.size := Heap.lt_size he
    have le2 : it < s.heap.objs.size := by obtain ⟨_, q, _⟩ := hit; exact Heap.lt_size q
    have hlt : i < its.toArray.size := by
      rw [List.size_toArray]
      exact (List.getElem?_eq_some_iff.mp hu).1
    have hef : e ∉ [it, a] := by simp [hne, Ne.symm hae]
    have hh1 : X.A.in1.handled = none := by simp [I.ok.hd hc]
    refine wpAny_pyNext_enum_itemD (Draws.tuple hh1 it a hai its.toArray) he ⟨hit, show s.heap.IsTuple a its.toArray from p⟩ hlt hne hef fun y g tk hy ho st2 hT hsz hk => ?_
    have ey : y = u := by
      have : its.toArray[i]? = some u := by simpa using hu
      exact Option.some.inj (hy.symm.trans this)
    subst ey
    refine ⟨_, rfl, wpAny_letOwnedTupleGo_enum (s := { s with heap := g, toks := tk + 1 }) ho fun g2 he2 sb => ?_⟩
    have hT2 : g2.get? s.heap.objs.size = some { cls := .type "tuple", data := .seq #[.int i tk, y] } := (sb.2 _ (Nat.ne_of_gt le1)).trans hT
    have new : ObjOk X.prog X.w (upd H s.heap.objs.size (.tup [.int (i : Nat), x])) g2 s.heap.objs.size (.tup [.int (i : Nat), x]) :=
      ⟨by show 2 ≤ sizeLine; decide, [.int i tk, y], .cons ⟨_, rfl⟩ (.cons ru .nil), ⟨_, hT2, rfl, _, rfl⟩⟩
    have I1 : Inv X pins σ (upd H s.heap.objs.size (.tup [.int (i : Nat), x])) { s with heap := g2, toks := tk + 1 } :=
      I.turnedNew (ch := [e, it]) (fun c ob hcb q => (sb.2 c (fun z => hcb (by simp [z]))).trans (hk c ob (fun z => hcb (by simp [z])) (fun z => hcb (by simp [z])) q)) hf (Nat.le_refl _) new
    refine ⟨.ref s.heap.objs.size, _, I1, rfl, ⟨_, x, rfl, I.hok.fresh (Nat.le_refl _), rfl, fun ys hy' => by rw [I.tuple_inj hy' hq]; exact hx⟩, ⟨⟨y, ?_⟩, st2.1.at fun o q => (sb.2 it (Ne.symm hne)).trans q, hne, hai, hae⟩, fun c hcm => ?_⟩
    · rw [show ((i + 1 : Nat) : Int) = (i : Int) + 1 by omega]
      exact he2
    · have hlt' : c < s.heap.objs.size := by
        rcases (show c = e ∨ c = it by simpa using hcm) with z | z
        · rw [z]; exact le1
        · rw [z]; exact le2
      rw [upd_ne (Nat.ne_of_lt hlt')]
      exact (hf c hcm).1
  done := by
    intro X hP hw hK hc i pins s σ H E I hf st hg
    subst hP hw hK
    obtain ⟨⟨old, he⟩, hit, hne, hai, hae⟩ := st
    obtain ⟨xs, hq, hx⟩ := hg
    obtain ⟨its, rv, p, hz⟩ := I.tuple hq
    obtain ⟨f0, f1, f2, f3, f4, f5⟩ := hf it (by simp)
    have hl := rv.length
    have hh1 : X.A.in1.handled = none := by simp [I.ok.hd hc]
    have en : its.toArray.size = i := by rw [List.size_toArray]; omega
    refine wpAny_pyNext_enum_endD (Draws.tuple hh1 it a hai its.toArray) he ⟨by rw [en]; exact hit, show s.heap.IsTuple a its.toArray from p⟩ fun g eb => ?_
    exact ⟨rfl, I.turned (t' := s.toks) (fun c o hcb q => eb c o hcb q) f0 f1 f3 f4 f5⟩
  self := fun A i s Q E st h => let ⟨⟨_, he⟩, _⟩ := st; wpAny_pyIter_enum he h
def iEnumT (K : PySem.W.Frag) (ta : TA) : TI := fun σ H R => ta σ H fun vs H1 => ∃ a xs, vs = [.ref a] ∧ SqT K H1 a xs ∧ R (IteT K a) H1
theorem pi_enumT {X : Cx} {e : Expr} {ta : TA} {p pos tpos : Pos} {elts : List Expr} {kk : Nat} (hg : Gl X "enumerate") (hm : X.mg "enumerate" = none) (ha : PA X [e] ta) (hs : starEach [e] X.env = [(false, eval e X.env)] := by rfl) :
    PI X (.Tuple elts kk tpos) (.Call (.Name "enumerate" p) [e] [] pos) (iEnumT X.K ta) := by
  refine ⟨fun pins s σ H R I h => ?_⟩
  refine Call_ (ld_blt I hg hm boot_enumerate (PyProof.Rows.callWith_type1 (thn (ha.run pos pins s σ H _ I h) fun us z ⟨vs, H1, I1, r1, q1⟩ => ?_) hs rfl))
  obtain ⟨a, xs, ex, hq, q⟩ := q1
  subst ex
  cases r1 with
  | cons r rr =>
    cases rr
    cases r
    obtain ⟨its, rv, tp, hz⟩ := I1.tuple hq
    have alt : a < z.heap.objs.size := by obtain ⟨_, q, _⟩ := tp; exact Heap.lt_size q
    refine call_enum1 (begins_tuple a its.toArray) (show z.heap.IsTuple a its.toArray from tp) fun g he hit hk => wpAny_pyIter_enum he ?_
    have I2 : Inv X pins σ H1 { z with heap := g } := I1.kept (t' := z.toks) hk
    refine ⟨z.heap.objs.size + 1, [z.heap.objs.size + 1, z.heap.objs.size], _, _, H1, rfl, I2, turn_enumT a (z.heap.objs.size + 1) z.heap.objs.size, ⟨⟨.none, he⟩, ⟨_, hit, rfl, rfl⟩, Nat.succ_ne_self _, Nat.ne_of_lt alt, Nat.ne_of_lt (Nat.lt_succ_of_lt alt)⟩, fun c hc => ?_, q⟩
    have hle : z.heap.objs.size ≤ c := by
      rcases (show c = z.heap.objs.size + 1 ∨ c = z.heap.objs.size by simpa using hc) with y | y
      · rw [y]; exact Nat.le_add_right _ _
      · rw [y]; exact Nat.le_refl _
    exact I1.fpOk hle (I1.hok.fresh hle)
theorem walk_enumT {K : PySem.W.Frag} {a : Addr} {xs : List V} : Walk (IteT K a) xs.length (fun H => SqT K H a xs) (YPair (fun i => some (.int (i : Nat))) (fun i => xs[i]?)) := by
  refine ⟨fun i _ hi q => ⟨xs, xs[i], q, by simp [hi]⟩, fun _ q => ⟨xs, q, rfl⟩, fun i H v H' _ q y => ?_⟩
  obtain ⟨T, x, h1, h2, h3, h4⟩ := y
  exact ⟨T, .int (i : Nat), x, h1, h2, h3, rfl, h4 xs q⟩
/-! ### max(t), t a tuple of ints -/
def rMaxT (K : PySem.W.Frag) : List V → Hp → VK → Prop := fun vs H Q => ∃ (a : Addr) (ns : List Int), vs = [V.ref a] ∧ SqT K H a (ns.map V.int) ∧ 0 < ns.length ∧ ∀ m, m ∈ ns → (∀ y, y ∈ ns → y ≤ m) → Q (.int m) H
theorem best_all (x : Int) (l : List Int) : PySem.W.maxOf x l ∈ x :: l ∧ ∀ y ∈ x :: l, y ≤ PySem.W.maxOf x l := by
  have gen : ∀ (l : List Int) (m : Int), let r := l.foldl (fun a y => if PySem.W.DatumOrd.lt a y = true then y else a) m
      r ∈ m :: l ∧ m ≤ r ∧ ∀ y ∈ l, y ≤ r := by
    intro l
    induction l with
    | nil => intro m; exact ⟨List.mem_cons_self, Int.le_refl _, fun y hy => by cases hy⟩
    | cons x l ih =>
      intro m
      show _ ∧ _
      rw [List.foldl_cons]
      have h := ih (if PySem.W.DatumOrd.lt m x = true then x else m)
      have e : PySem.W.DatumOrd.lt m x = decide (m < x) := rfl
      rw [e] at h ⊢
      by_cases c : m < x
      · rw [decide_eq_true c, if_pos rfl] at h ⊢
        obtain ⟨h1, h2, h3⟩ := h
        refine ⟨?_, by omega, fun y hy => ?_⟩
        · rcases List.mem_cons.mp h1 with z | z
          · rw [z]; exact List.mem_cons_of_mem _ List.mem_cons_self
          · exact List.mem_cons_of_mem _ (List.mem_cons_of_mem _ z)
        · rcases List.mem_cons.mp hy with z | z
          · rw [z]; exact h2
          · exact h3 y z
      · rw [decide_eq_false c, if_neg Bool.false_ne_true] at h ⊢
        obtain ⟨h1, h2, h3⟩ := h
        refine ⟨?_, h2, fun y hy => ?_⟩
        · rcases List.mem_cons.mp h1 with z | z
          · rw [z]; exact List.mem_cons_self
          · exact List.mem_cons_of_mem _ (List.mem_cons_of_mem _ z)
        · rcases List.mem_cons.mp hy with z | z
          · omega
          · exact h3 y z
  obtain ⟨h1, h2, h3⟩ := gen l x
  refine ⟨h1, fun y hy => ?_⟩
  rcases List.mem_cons.mp hy with z | z
  · rw [z]; exact h2
  · exact h3 y z
section
variable {X : Cx}
theorem hold_ints : ∀ {ns : List Int} {us : List Value} {g : Heap}, Vals (ns.map V.int) us → PySem.W.HoldAll g us ns
  | [], _, g, .nil => PySem.W.HoldAll.nil
  | n :: ns, _, g, .cons r t => by
    obtain ⟨tk, rfl⟩ := r
    exact PySem.W.HoldAll.cons (PySem.W.holds_int n tk) (hold_ints t)
theorem cr_maxT (hc : X.calm = true) (hu : X.A.units + 64 < cLine) : CallR X (.builtin "max") (rMaxT X.K) := by
  intro pins z σ H vs us Q I r h
  obtain ⟨a, ns, rfl, hs, hne, q⟩ := h
  obtain ⟨its, rv, tp, _⟩ := I.tuple hs
  rw [Vals.ref1 r]
  cases ns with
  | nil => cases hne
  | cons x l =>
    refine PySem.W.max_tuple_datum (α := Int) (x := x) (xs := l) (vs := its.toArray) (I.ok.hd hc) (show z.heap.IsTuple a its.toArray from tp) (by simpa using hold_ints rv) (by show X.A.units + 1 + 0 < cLine; omega) fun i v g tk hv hh hk => ?_
    obtain ⟨as, rd⟩ := hh
    obtain ⟨t, e⟩ : ∃ t, v = .int (PySem.W.maxOf x l) t := by
      cases rd with
      | int n t => exact ⟨t, rfl⟩
    subst e
    have hb := best_all x l
    exact ⟨.int _, H, I.kept hk, ⟨_, rfl⟩, q _ hb.1 hb.2⟩
/-! ### l[i] += e -/
def rGetN (K : PySem.W.Frag) : V → V → Hp → VK → Prop := fun o i H Q => ∃ (p : Addr) (xs : List V) (k : Nat) (v : V), o = .ref p ∧ i = .int (k : Int) ∧ SqL K H p xs ∧ xs[k]? = some v ∧ Q v H
theorem get_list : PGet X (rGetN X.K) := fun pins z σ H o i ov iv Q I r1 r2 h => by
  obtain ⟨p, xs, k, v, rfl, rfl, hs, ha, q⟩ := h
  cases r1
  obtain ⟨t, rfl⟩ := r2
  obtain ⟨its, rv, pl, hz⟩ := I.list hs
  obtain ⟨u, hu, ru⟩ := rv.get ha
  have hk : k < 2 ^ 63 := by
    have h1 := (List.getElem?_eq_some_iff.mp ha).1
    rw [sizeLine_eq] at hz
    omega
  exact wpAny_getItem_list pl.isList (by omega) (by omega) (x := u) (by simpa using hu) ⟨v, H, I, ru, q⟩
def tAugL (K : PySem.W.Frag) (to ti te : TE) : TS := tAugS to ti te (rGetN K) (ipI fun i j => i + j) rSetL
theorem ps_augL58 {o i e : Expr} {to ti te : TE} {tpos pos : Pos} (ho : PE X o to) (hi : PE X i ti) (he : PE X e te)
    (ha : ∀ ov iv new, augStore i ov iv new = (do holding [new, ov, iv] (setItem ov iv new); release [new, ov, iv] []; pure .next) := by intros; rfl) : PS X (.AugAssign (.Subscript o i tpos) .Add e pos) (tAugL X.K to ti te) :=
  ps_augS ho hi get_list he ip_add set_list ha
/-! ### l[::2] -/
theorem vals_pick {xs : List V} {us : List Value} (r : Vals xs us) : ∀ js : List Nat, Vals (js.filterMap (xs[·]?)) (js.filterMap (us[·]?))
  | [] => .nil
  | j :: js => by
    rw [List.filterMap_cons, List.filterMap_cons]
    cases e : xs[j]? with
    | none =>
      rw [r.none_of e]
      exact vals_pick r js
    | some x =>
      obtain ⟨u, hu, ru⟩ := r.get e
      rw [hu]
      exact .cons ru (vals_pick r js)
def evn (n : Nat) : List Nat := sliceRange 0 (n : Int) 2
theorem evn_zero {n : Nat} (h : 0 < n) : 0 ∈ evn n := by
  unfold evn sliceRange
  have h2 : (2 : Int) > 0 := by decide
  have h3 : (0 : Int) < (n : Int) := by omega
  simp only [h2, if_true, h3]
  refine List.mem_map.mpr ⟨0, List.mem_range.mpr ?_, rfl⟩
  omega
theorem evn_pick (its : Array Value) : slicePick its none none (some 2) = ((evn its.size).filterMap (its.toList[·]?)).toArray := by
  unfold slicePick evn
  have e : sliceBounds none none (some 2) its.size = (0, (its.size : Int), 2) := by
    first
    | rfl
    | simp [sliceBounds]
  rw [e]
  congr 1
  congr 1
  funext j
  exact (Array.getElem?_toList (xs := its) (i := j)).symm
def tEvenL (K : PySem.W.Frag) (te : TE) : TE := fun σ H Q => te σ H fun x H1 => ∃ a xs, x = .ref a ∧ SqL K H1 a xs ∧ ∀ p, H1 p = none → Q (.ref p) (upd H1 p (.lst ((evn xs.length).filterMap (xs[·]?))))
theorem pe_evenL {e : Expr} {te : TE} {k : Nat} {p1 p3 pos : Pos} (he : PE X e te) : PE X (.Subscript e (.Slice none none (some (.Constant (.int 2) k p1)) p3) pos) (tEvenL X.K te) := by
  refine ⟨fun pins z σ H Q I h => ?_⟩
  refine Subscript_ (thn (he.run pins z σ H _ I h) fun v z1 ⟨x, H1, I1, r1, q1⟩ => ?_)
  obtain ⟨a, xs, rfl, hx, q⟩ := q1
  cases r1
  have two : PO X (some (.Constant (.int 2) k p1)) (tPart (tC (.int 2))) := po_some pe_int
  refine wpAny_Slice (thn (po_none.run pins z1 σ H1 (fun o g => o = none ∧ g = H1) I1 ⟨rfl, rfl⟩) fun vl z2 ⟨l, H2, I2, pl, el, e2⟩ => ?_)
  subst el e2
  refine thn (po_none.run pins z2 σ H2 (fun o g => o = none ∧ g = H2) I2 ⟨rfl, rfl⟩) fun vu z3 ⟨u, H3, I3, pu, eu, e3⟩ => ?_
  subst eu e3
  refine thn (two.run pins z3 σ H3 (fun o g => o = some 2 ∧ g = H3) I3 ⟨2, rfl, rfl, rfl⟩) fun vs z4 ⟨o, H4, I4, ps, eo, e4⟩ => ?_
  subst eo e4
  have I5 : Inv X pins σ H4 { z4 with heap := z4.heap.push { cls := .type "slice", data := .fields #[vl, vu, vs] } } := I4.kept (t' := z4.toks) fun c u q => Heap.get?_push_of_some _ q
  obtain ⟨its, r, ht, hz⟩ := I5.list hx
  have hlen := r.length
  show wpAny (model X.prog X.w) X.A (subscriptTail e (.Slice none none (some (.Constant (.int 2) k p1)) p3) (.ref a) (.ref z4.heap.objs.size)) (EP X pins σ Q) X.xe { z4 with heap := z4.heap.push { cls := .type "slice", data := .fields #[vl, vu, vs] } }
  refine tail_any (ops := [.ref a, .ref z4.heap.objs.size]) ht.isList.typeIs (PySem.slot_list_getitem.lookup) ?_ (by with_unfolding_all rfl)
  have small : its.toArray.size ≤ sizeLine := by rw [List.size_toArray]; omega
  have few := slicePick_size_le its.toArray none none (some 2)
  refine wpAny_getItem_list_slice ht.isList (Heap.IsSliceOf.new _ vl vu vs) pl pu ps (by decide) ?_ small
  rw [evn_pick] at few ⊢
  have esz : its.toArray.size = xs.length := by rw [List.size_toArray]; omega
  rw [List.size_toArray] at few
  rw [esz] at few ⊢
  have vp := vals_pick r (evn xs.length)
  refine ⟨.ref _, _, I5.laid (t' := z4.toks) (o := .lst ((evn xs.length).filterMap (xs[·]?))) (fun c u q => Heap.get?_push_of_some _ q) (Nat.le_refl _) ?_, rfl, q _ (I5.hok.fresh (Nat.le_refl _))⟩
  have vl2 := vp.length
  have few2 : (List.filterMap (its[·]?) (evn xs.length)).length ≤ xs.length := few
  exact ⟨by omega, _, 0, vp, Heap.get?_push_size _ rfl⟩
end
end K58

/-! K58B: path_of, is_elder, is_bases. -/
namespace K58
open PySem PySem.Spec PyProof.Rows L2
abbrev s_path_of : Stmt := topS 13
abbrev N_path_of : List Str := ["history", "version", "found", "elder"]
theorem sc_path_of : FnScope N_path_of ["history", "version"] (defScope s_path_of) := ⟨rfl, rfl, rfl, by decide +kernel, rfl, by decide +kernel, by decide +kernel⟩
abbrev s_is_elder : Stmt := topS 14
abbrev N_is_elder : List Str := ["history", "one", "other"]
theorem sc_is_elder : FnScope N_is_elder ["history", "one", "other"] (defScope s_is_elder) := ⟨rfl, rfl, rfl, by decide +kernel, rfl, by decide +kernel, by decide +kernel⟩
abbrev s_is_bases : Stmt := topS 16
abbrev N_is_bases : List Str := ["history", "thing", "at", "base"]
theorem sc_is_bases : FnScope N_is_bases ["history", "thing"] (defScope s_is_bases) := ⟨rfl, rfl, rfl, by decide +kernel, rfl, by decide +kernel, by decide +kernel⟩
section
variable {P : Program} {w : World} {K : PySem.W.Frag} {mg : Str → Option Value} {base : Heap}
def spPath (K : PySem.W.Frag) : Sp := fun vs H Q _ => ∃ (a : Addr) (h : List Nat) (v : Nat), vs = [.ref a, .int (v : Int)] ∧ SqT K H a (vn h) ∧ Hist h ∧ v ≤ h.length ∧ h.length ≤ 40 ∧ RetT (vn (path h v)) H Q
theorem ok_path_of (B : Bl mg) (D : Dn K mg "path_of" s_path_of ["history", "version"]) (C1 : OkD P w K mg base "check_version" ["history", "name", "thing", "least"] 3 (spCheck K)) (C2 : Ok P w K mg base "_upward" ["history", "version"] 1 (spUp K)) :
    Ok P w K mg base "path_of" ["history", "version"] 4 (spPath K) := by
  obtain ⟨f, fd, F, g, b⟩ := D.ex
  obtain ⟨f_check_version, fd_check_version, ds_check_version, g_check_version, k_check_version, rV_check_version, b_check_version, G_check_version⟩ := C1.ex
  obtain ⟨f_upward, fd_upward, g_upward, k_upward, b_upward, G_upward⟩ := C2.ex
  have sc := sc_path_of
  refine ⟨f, fd, g, F.kp, b, F.ok sc (fun vs H Q E h => ?_) (fun cdv A outer s H vs Q E hr h => ?_)⟩
  · obtain ⟨a, l, v, rfl, _⟩ := h
    rfl
  · obtain ⟨a, l, v, rfl, hS, hH, hv, hl, k⟩ := h
    refine ⟨_, (pss_cons (ps_expr (pe_call G_check_version (hr.mono (by decide)) (by rfl) g_check_version k_check_version b_check_version rV_check_version pass0 (pa_cons (pv 0) (pa_cons pe_str (pa_cons (pv 1) pa_nil)))))
    (pss_cons (ps_set (i := 2) sc.nd rfl (Or.inl rfl) (pe_op op_cat (pe_lst (pa_cons (pv 1) pa_nil)) (pe_call G_upward (hr.mono (by decide)) (by rfl) g_upward k_upward b_upward .nil pass0 (pa_cons (pv 0) (pa_cons (pv 1) pa_nil)))))
    (pss_one (ps_ret (pe_callTy call_tuple_of (by rfl) B.n_tuple (by decide +kernel) (pa_cons (pe_lc (own := [("elder", 3)]) rfl sc.nd (pi_reversed (by rfl) B.n_reversed (pa_cons (pv 2) pa_nil)) (blkOk_by (N := N_path_of) (sc := defScope s_path_of) (by decide +kernel)) (fun _ _ _ _ _ => pg_name (i := 3) sc.nd rfl (Or.inl rfl)) (fun _ _ _ _ _ => pts_one ((pt_cmpR op_gt (pv 3) pe_int (nomark _)))) (fun _ _ _ _ _ => (pv 3))) pa_nil)))))), ?_⟩
    refine ⟨.ref a, rfl, .int (v : Int), rfl, a, l, _, v, rfl, hS, hv, ?_⟩
    refine ⟨.int (v : Int), rfl, sizeOk (by show 1 ≤ 100000; decide), fun p1 n1 => ?_⟩
    refine ⟨.ref a, rfl, .int (v : Int), rfl, a, l, v, rfl, (Same.new n1).t hS, hH, hv, hl, fun p2 H2 n2 s2 e2 => ?_⟩
    have ul := up_len hH v
    have e1 : H2 p1 = some (.lst [.int (v : Int)]) := s2 _ _ upd_same
    refine ⟨p1, p2, _, _, rfl, rfl, e1, e2, sizeOk (by rw [vn_len]; show 1 + _ ≤ _; omega), fun p3 n3 => ?_⟩
    have s3 : Same H (upd H2 p3 (.lst ([.int (v : Int)] ++ vn (up l v)))) := ((Same.new n1).trans s2).trans (Same.new n3)
    have e3 : (upd H2 p3 (.lst ([.int (v : Int)] ++ vn (up l v)))) p3 = some (.lst (vn (v :: up l v))) := upd_same
    generalize upd H2 p3 (.lst ([.int (v : Int)] ++ vn (up l v))) = H3 at s3 e3
    refine ⟨.ref p3, rfl, p3, vn (v :: up l v), rfl, SqL.of e3, fun D nD => ?_⟩
    refine lc_it (walk_rev (K := K) (a := p3) (xs := vn (v :: up l v))) (fun i H' => Same H3 H' ∧ H' D = some (.lst (vn (((v :: up l v).reverse.take i).filter fun e => decide (0 < e))))) ⟨Same.new nD, upd_same⟩
      (fun i H' _ p => p.1.seq (SqL.of e3)) (fun i x H' H'' hi p y => ?_) (fun H' p => ?_)
    · obtain ⟨rfl, hx⟩ := y
      rw [vn_len] at hi hx
      have hx2 : (vn (v :: up l v).reverse)[i]? = some x := by
        rw [← vn_rev, List.getElem?_reverse (by rw [vn_len]; exact hi), vn_len]
        exact hx
      obtain ⟨y, hy, rfl⟩ := vn_of hx2
      have len := filt_take_len (fun e => decide (0 < e)) (v :: up l v).reverse i
      rw [List.length_reverse, List.length_cons] at len
      refine ⟨rfl, .int (y : Int), rfl, (y : Int), 0, rfl, rfl, _, rfl, ite2 (fun c => ?_) (fun c => ?_)⟩
      · have c0 : 0 < y := by have := of_decide_eq_true c; omega
        refine ⟨.int (y : Int), rfl, _, p.2, sizeLt (by rw [vn_len]; omega), Same.mut p.1 nD, ?_⟩
        rw [upd_same, vn_snoc, filt_yes hy (decide_eq_true c0)]
      · have c0 : ¬ 0 < y := fun z => c (decide_eq_true (by omega))
        refine ⟨p.1, ?_⟩
        rw [filt_no hy (by simpa using c0)]
        exact p.2
    · obtain ⟨sm, hD⟩ := p
      rw [vn_len, show (v :: up l v).length = (v :: up l v).reverse.length by rw [List.length_reverse], List.take_length] at hD
      refine ⟨D, _, rfl, .inl ⟨SqL.of hD, fun q nq => ?_⟩⟩
      exact k q _ ((s3.trans sm).free nq) ((s3.trans sm).trans (Same.new nq)) upd_same
/-- is_elder(history, one, other) -/
def spElder (K : PySem.W.Frag) : Sp := fun vs H Q _ => ∃ (a : Addr) (h : List Nat) (u v : Nat), vs = [.ref a, .int (u : Int), .int (v : Int)] ∧ SqT K H a (vn h) ∧ Hist h ∧ u ≤ h.length ∧ v ≤ h.length ∧ h.length ≤ 40 ∧ RetV (.bl ((up h v).contains u)) H Q
theorem ok_is_elder (B : Bl mg) (D : Dn K mg "is_elder" s_is_elder ["history", "one", "other"]) (C1 : OkD P w K mg base "check_version" ["history", "name", "thing", "least"] 3 (spCheck K)) (C2 : Ok P w K mg base "_upward" ["history", "version"] 1 (spUp K)) :
    Ok P w K mg base "is_elder" ["history", "one", "other"] 4 (spElder K) := by
  obtain ⟨f, fd, F, g, b⟩ := D.ex
  obtain ⟨f_check_version, fd_check_version, ds_check_version, g_check_version, k_check_version, rV_check_version, b_check_version, G_check_version⟩ := C1.ex
  obtain ⟨f_upward, fd_upward, g_upward, k_upward, b_upward, G_upward⟩ := C2.ex
  have sc := sc_is_elder
  refine ⟨f, fd, g, F.kp, b, F.ok sc (fun vs H Q E h => ?_) (fun cdv A outer s H vs Q E hr h => ?_)⟩
  · obtain ⟨a, l, u, v, rfl, _⟩ := h
    rfl
  · obtain ⟨a, l, u, v, rfl, hS, hH, hu, hv, hl, k⟩ := h
    refine ⟨_, (pss_cons (ps_expr (pe_call G_check_version (hr.mono (by decide)) (by rfl) g_check_version k_check_version b_check_version rV_check_version pass0 (pa_cons (pv 0) (pa_cons pe_str (pa_cons (pv 1) pa_nil)))))
    (pss_cons (ps_expr (pe_call G_check_version (hr.mono (by decide)) (by rfl) g_check_version k_check_version b_check_version rV_check_version pass0 (pa_cons (pv 0) (pa_cons pe_str (pa_cons (pv 2) pa_nil)))))
    (pss_one (ps_ret (pe_cmpR op_in_seq (pv 1) (pe_call G_upward (hr.mono (by decide)) (by rfl) g_upward k_upward b_upward .nil pass0 (pa_cons (pv 0) (pa_cons (pv 2) pa_nil))) (by rfl)))))), ?_⟩
    refine ⟨.ref a, rfl, .int (u : Int), rfl, a, l, _, u, rfl, hS, hu, ?_⟩
    refine ⟨.ref a, rfl, .int (v : Int), rfl, a, l, _, v, rfl, hS, hv, ?_⟩
    refine ⟨.int (u : Int), rfl, .ref a, rfl, .int (v : Int), rfl, a, l, v, rfl, hS, hH, hv, hl, fun p H1 n1 s1 e1 => ?_⟩
    refine ⟨p, vn (up l v), rfl, .inl (SqL.of e1), rfl, vn_flat _, ?_⟩
    show Q (.bl (inV (.int (u : Int)) (vn (up l v)))) H1
    rw [vn_in]
    exact k _ s1
/-- is_bases(history, thing), thing bases: it holds -/
def spBases (K : PySem.W.Frag) : Sp := fun vs H Q _ => ∃ (a c : Addr) (h b : List Nat), vs = [.ref a, .ref c] ∧ SqT K H a (vn h) ∧ SqT K H c (vn b) ∧ Hist h ∧ Bas h b ∧ h.length ≤ 40 ∧ RetV (.bl true) H Q
theorem ok_is_bases (B : Bl mg) (D : Dn K mg "is_bases" s_is_bases ["history", "thing"]) (C1 : Ok P w K mg base "many_of" ["history"] 1 (spMany K)) (C2 : Ok P w K mg base "is_number" ["thing"] 2 (spIsNum 0)) (C3 : Ok P w K mg base "is_elder" ["history", "one", "other"] 4 (spElder K)) :
    Ok P w K mg base "is_bases" ["history", "thing"] 5 (spBases K) := by
  obtain ⟨f, fd, F, g, b⟩ := D.ex
  obtain ⟨f_many_of, fd_many_of, g_many_of, k_many_of, b_many_of, G_many_of⟩ := C1.ex
  obtain ⟨f_is_number, fd_is_number, g_is_number, k_is_number, b_is_number, G_is_number⟩ := C2.ex
  obtain ⟨f_is_elder, fd_is_elder, g_is_elder, k_is_elder, b_is_elder, G_is_elder⟩ := C3.ex
  have sc := sc_is_bases
  refine ⟨f, fd, g, F.kp, b, F.ok sc (fun vs H Q E h => ?_) (fun cdv A outer s H vs Q E hr h => ?_)⟩
  · obtain ⟨a, c, l, b, rfl, _⟩ := h
    rfl
  · obtain ⟨a, c, l, b, rfl, hS, hT, hH, hB, hl, k⟩ := h
    refine ⟨_, (pss_cons (ps_if (pt_not (PW.pt (pw_and (pt_val (pe_callB call_isi (by rfl) B.n_isinstance (by decide +kernel) (pa_cons (pv 1) (pa_cons (pe_bltn (v := .ty "tuple") (by rfl) B.n_tuple (by decide +kernel) rfl) pa_nil)))) (pw_and1 (pt_cmpR op_eq (pe_callB call_len_seq (by rfl) B.n_len PySem.boot_len (pa_cons (pv 1) pa_nil)) (pe_call G_many_of (hr.mono (by decide)) (by rfl) g_many_of k_many_of b_many_of .nil pass0 (pa_cons (pv 0) pa_nil)) (nomark _)))))) (pss_one (ps_ret pe_bl)) pss_nil)
    (pss_cons (ps_for PassesOwn.never rfl (pi_enumT (by rfl) B.n_enumerate (pa_cons (pv 1) pa_nil)) (pg_tup rfl (pgs_cons (pg_name (i := 2) sc.nd rfl (Or.inl rfl)) (pgs_cons (pg_name (i := 3) sc.nd rfl (Or.inl rfl)) pgs_nil)))
      (pss_one (ps_if (pt_not (PW.pt (pw_and (pt_val (pe_call G_is_number (hr.mono (by decide)) (by rfl) g_is_number k_is_number b_is_number .nil pass0 (pa_cons (pv 3) pa_nil))) (pw_and (pt_cmpR op_le (pv 3) (pv 2) (nomark _)) (pw_and1 (pt_val (pe_call G_is_elder (hr.mono (by decide)) (by rfl) g_is_elder k_is_elder b_is_elder .nil pass0 (pa_cons (pv 0) (pa_cons (pv 3) (pa_cons (pe_op op_add (pv 2) pe_int) pa_nil)))))))))) (pss_one (ps_ret pe_bl)) pss_nil)))
    (pss_one (ps_ret pe_bl)))), ?_⟩
    refine ⟨.ref c, rfl, _, _, _, _, true, rfl, .ty _, tyx_tup hT, kit_tt, true, rfl, iteT ?_⟩
    refine ⟨.ref c, rfl, c, _, rfl, .inr hT, .ref a, rfl, a, l, rfl, hS, rfl, true, ?_, iteF ?_⟩
    · rw [vn_len, hB.1]; exact blT rfl
    refine ⟨.ref c, rfl, c, _, rfl, hT, for_it (walk_enumT (K := K) (a := c) (xs := vn b)) (fun i σ H' => ∃ y2 y3, σ = [some (.ref a), some (.ref c), y2, y3] ∧ Same H H') ⟨none, none, rfl, Same.refl H⟩
      (fun i σ H' _ ⟨_, _, _, sm⟩ => sm.t hT) (fun i x σ H' H'' hi p y => ?_) (fun σ H' p => ?_)⟩
    · obtain ⟨y2, y3, rfl, sm⟩ := p
      obtain ⟨T, u1, u2, rfl, nT, rfl, e1, e2⟩ := y
      obtain rfl := (Option.some.inj e1).symm
      obtain ⟨z, hz, rfl⟩ := vn_of e2
      rw [vn_len] at hi
      have sm2 := sm.trans (Same.new (o := .tup [.int (i : Int), .int (z : Int)]) nT)
      have zm := hB.2 i z hz
      have zl := up_lt hH _ _ zm
      have hbl := hB.1
      refine ⟨T, _, rfl, SqT.of upd_same, rfl, _, _, rfl, _, _, rfl, rfl, ?_⟩
      refine ⟨.int (z : Int), rfl, (z : Int), rfl, by omega, true, rfl, iteT ?_⟩
      refine ⟨.int (z : Int), rfl, .int (i : Int), rfl, _, _, rfl, rfl, true, blT (show (z : Int) ≤ (i : Int) by omega), iteT ?_⟩
      refine ⟨.ref a, rfl, .int (z : Int), rfl, .int (i : Int), rfl, _, _, rfl, rfl, a, l, z, i + 1, rfl, sm2.t hS, hH, by omega, by omega, hl, fun H3 s3 => ?_⟩
      have ec : (up l (i + 1)).contains z = true := List.contains_iff_mem.mpr zm
      rw [ec]
      exact ⟨true, rfl, iteF ⟨_, _, rfl, sm2.trans s3⟩⟩
    · obtain ⟨y2, y3, rfl, sm⟩ := p
      exact k _ sm
end
end K58

/-! K58C: crossings, chains, counts. -/
namespace K58
open PySem PySem.Spec PyProof.Rows L2
abbrev s_first_crossing : Stmt := topS 17
abbrev N_first_crossing : List Str := ["history", "bases", "z", "base", "v"]
theorem sc_first_crossing : FnScope N_first_crossing ["history", "bases"] (defScope s_first_crossing) := ⟨rfl, rfl, rfl, by decide +kernel, rfl, by decide +kernel, by decide +kernel⟩
abbrev s_is_plan : Stmt := topS 18
abbrev N_is_plan : List Str := ["history", "thing"]
theorem sc_is_plan : FnScope N_is_plan ["history", "thing"] (defScope s_is_plan) := ⟨rfl, rfl, rfl, by decide +kernel, rfl, by decide +kernel, by decide +kernel⟩
abbrev s_crossing_of : Stmt := topS 19
abbrev N_crossing_of : List Str := ["history", "bases"]
theorem sc_crossing_of : FnScope N_crossing_of ["history", "bases"] (defScope s_crossing_of) := ⟨rfl, rfl, rfl, by decide +kernel, rfl, by decide +kernel, by decide +kernel⟩
abbrev s_ask_bases : Stmt := topS 21
abbrev N_ask_bases : List Str := ["history", "bases"]
theorem sc_ask_bases : FnScope N_ask_bases ["history", "bases"] (defScope s_ask_bases) := ⟨rfl, rfl, rfl, by decide +kernel, rfl, by decide +kernel, by decide +kernel⟩
abbrev s_ask_version : Stmt := topS 22
abbrev N_ask_version : List Str := ["history", "word", "version", "least"]
theorem sc_ask_version : FnScope N_ask_version ["history", "word", "version", "least"] (defScope s_ask_version) := ⟨rfl, rfl, rfl, by decide +kernel, rfl, by decide +kernel, by decide +kernel⟩
abbrev s_chain_from : Stmt := topS 24
abbrev N_chain_from : List Str := ["bases", "version", "links"]
theorem sc_chain_from : FnScope N_chain_from ["bases", "version"] (defScope s_chain_from) := ⟨rfl, rfl, rfl, by decide +kernel, rfl, by decide +kernel, by decide +kernel⟩
abbrev s_sheet_from : Stmt := topS 25
abbrev N_sheet_from : List Str := ["history", "bases", "version", "change"]
theorem sc_sheet_from : FnScope N_sheet_from ["history", "bases", "version"] (defScope s_sheet_from) := ⟨rfl, rfl, rfl, by decide +kernel, rfl, by decide +kernel, by decide +kernel⟩
abbrev s_chain_of : Stmt := topS 26
abbrev N_chain_of : List Str := ["history", "bases", "version"]
theorem sc_chain_of : FnScope N_chain_of ["history", "bases", "version"] (defScope s_chain_of) := ⟨rfl, rfl, rfl, by decide +kernel, rfl, by decide +kernel, by decide +kernel⟩
abbrev s_reads_by : Stmt := topS 27
abbrev N_reads_by : List Str := ["history", "bases", "counts", "base"]
theorem sc_reads_by : FnScope N_reads_by ["history", "bases"] (defScope s_reads_by) := ⟨rfl, rfl, rfl, by decide +kernel, rfl, by decide +kernel, by decide +kernel⟩
abbrev s_writes_by : Stmt := topS 28
abbrev N_writes_by : List Str := ["history", "bases", "counts", "version", "change"]
theorem sc_writes_by : FnScope N_writes_by ["history", "bases"] (defScope s_writes_by) := ⟨rfl, rfl, rfl, by decide +kernel, rfl, by decide +kernel, by decide +kernel⟩
theorem findSome_at {α β : Type} {p : α → Option β} : ∀ {l : List α} {i : Nat} {x : α} {y : β}, l[i]? = some x → p x = some y → (∀ j z, j < i → l[j]? = some z → p z = none) → l.findSome? p = some y
  | [], i, x, y, h, _, _ => by simp at h
  | z :: l, 0, x, y, h, hp, _ => by
    have e : z = x := Option.some.inj h
    rw [e, List.findSome?_cons, hp]
  | z :: l, i + 1, x, y, h, hp, hb => by
    have e := hb 0 z (by omega) rfl
    rw [List.findSome?_cons, e]
    exact findSome_at (i := i) h hp fun j u hj hu => hb (j + 1) u (by omega) hu
theorem crossP_some {h b : List Nat} {i v : Nat} (hi : i < h.length) (hv : (path h (i + 1)).find? (hitP b (i + 1)) = some v) (hb : ∀ j, j < i → (path h (j + 1)).find? (hitP b (j + 1)) = none) : crossP h b = some (v, i + 1) := by
  unfold crossP
  refine findSome_at (i := i) (List.getElem?_range hi) (by rw [hv]; rfl) fun j z hj hz => ?_
  rw [List.getElem?_range (by omega)] at hz
  rw [← Option.some.inj hz, hb j hj]; rfl
theorem crossP_all {h b : List Nat} (hb : ∀ j, j < h.length → (path h (j + 1)).find? (hitP b (j + 1)) = none) : crossP h b = none := by
  unfold crossP
  rw [List.findSome?_eq_none_iff]
  intro x hx
  rw [hb x (List.mem_range.mp hx)]; rfl
section
variable {P : Program} {w : World} {K : PySem.W.Frag} {mg : Str → Option Value} {base : Heap}
def spFirst (K : PySem.W.Frag) : Sp := fun vs H Q _ => ∃ (a c : Addr) (h b : List Nat), vs = [.ref a, .ref c] ∧ SqT K H a (vn h) ∧ SqT K H c (vn b) ∧ Hist h ∧ Bas h b ∧ h.length ≤ 40 ∧
  (crossP h b = none → RetV .non H Q) ∧ ∀ v z, crossP h b = some (v, z) → RetT (vn [v, z]) H Q
theorem ok_first_crossing (B : Bl mg) (D : Dn K mg "first_crossing" s_first_crossing ["history", "bases"]) (C1 : Ok P w K mg base "many_of" ["history"] 1 (spMany K)) (C2 : Ok P w K mg base "path_of" ["history", "version"] 4 (spPath K)) :
    Ok P w K mg base "first_crossing" ["history", "bases"] 5 (spFirst K) := by
  obtain ⟨f, fd, F, g, b⟩ := D.ex
  obtain ⟨f_many_of, fd_many_of, g_many_of, k_many_of, b_many_of, G_many_of⟩ := C1.ex
  obtain ⟨f_path_of, fd_path_of, g_path_of, k_path_of, b_path_of, G_path_of⟩ := C2.ex
  have sc := sc_first_crossing
  refine ⟨f, fd, g, F.kp, b, F.ok sc (fun vs H Q E h => ?_) (fun cdv A outer s H vs Q E hr h => ?_)⟩
  · obtain ⟨a, c, l, b, rfl, _⟩ := h
    rfl
  · obtain ⟨a, c, l, b, rfl, hS, hT, hH, hB, hl, kN, kS⟩ := h
    have hbl := hB.1
    refine ⟨_, (pss_cons (ps_for PassesOwn.never rfl (pi_range2 (by rfl) B.n_range (pa_cons pe_int (pa_cons (pe_op op_add (pe_call G_many_of (hr.mono (by decide)) (by rfl) g_many_of k_many_of b_many_of .nil pass0 (pa_cons (pv 0) pa_nil)) pe_int) pa_nil))) (pg_name (i := 2) sc.nd rfl (Or.inl rfl))
      (pss_cons (ps_set (i := 3) sc.nd rfl (Or.inl rfl) (pe_ix ix_tup (pv 1) (pe_op op_sub (pv 2) pe_int) (fun _ _ => rfl)))
    (pss_one (ps_for PassesOwn.never rfl (pi_tup (pe_call G_path_of (hr.mono (by decide)) (by rfl) g_path_of k_path_of b_path_of .nil pass0 (pa_cons (pv 0) (pa_cons (pv 2) pa_nil)))) (pg_name (i := 4) sc.nd rfl (Or.inl rfl))
      (pss_one (ps_if (PW.pt (pw_and (pt_cmpR op_lt (pv 3) (pv 4) (nomark _)) (pw_and1 (pt_cmpR op_lt (pe_ix ix_tup (pv 1) (pe_op op_sub (pv 4) pe_int) (fun _ _ => rfl)) (pv 3) (nomark _))))) (pss_one (ps_ret (pe_tup (pa_cons (pv 4) (pa_cons (pv 2) pa_nil))))) pss_nil))))))
    (pss_one (ps_ret pe_non))), ?_⟩
    refine ⟨.ref a, rfl, a, l, rfl, hS, _, _, rfl, rfl, 1, _, rfl, ⟨by omega, by omega, by omega, by omega⟩, ?_⟩
    refine for_range (lo := 1) (n := ((l.length : Int) + 1 - 1).toNat) (fun i σ H' => ∃ y2 y3 y4, σ = [some (.ref a), some (.ref c), y2, y3, y4] ∧ Same H H' ∧ ∀ j, j < i → (path l (j + 1)).find? (hitP b (j + 1)) = none)
      ⟨none, none, none, rfl, Same.refl H, fun j hj => absurd hj (Nat.not_lt_zero _)⟩ (fun i σ H' hi p => ?_) (fun σ H' p => ?_)
    · obtain ⟨y2, y3, y4, rfl, sm, pb⟩ := p
      have hi' : i < l.length := by omega
      have ez : (1 : Int) + (i : Int) = ((i + 1 : Nat) : Int) := by omega
      refine ⟨.ref c, rfl, .int (1 + (i : Int)), rfl, _, _, rfl, rfl, c, _, _, .int (par b (i + 1) : Int), rfl, rfl, sm.t hT, ?_, ?_⟩
      · rw [ez]
        exact par_ix (by omega) (by omega)
      · refine ⟨.ref a, rfl, .int (1 + (i : Int)), rfl, a, l, i + 1, by rw [ez]; rfl, sm.t hS, hH, by omega, hl, fun q H2 n2 s2 e2 => ?_⟩
        have s3 := sm.trans s2
        refine ⟨q, rfl, ⟨_, SqT.of e2⟩, for_tup (K := K) (a := q) (xs := vn (path l (i + 1))) (fun k σ H' => ∃ y4, σ = [some (.ref a), some (.ref c), some (.int ((i + 1 : Nat) : Int)), some (.int (par b (i + 1) : Int)), y4] ∧ Same H2 H' ∧ ∀ j y, j < k → (path l (i + 1))[j]? = some y → hitP b (i + 1) y = false)
          ⟨y4, by rw [ez]; rfl, Same.refl _, fun j y hj => absurd hj (Nat.not_lt_zero _)⟩ (fun k σ H' _ ⟨_, _, sm', _⟩ => sm'.t (SqT.of e2)) (fun k x σ H' hx p => ?_) (fun σ H' p => ?_)⟩
        · obtain ⟨y4', rfl, sm', pk⟩ := p
          obtain ⟨y, hy, rfl⟩ := vn_of hx
          have ym := path_mem.mp (List.mem_of_getElem? hy)
          have yl : y ≤ l.length := by
            rcases ym.1 with e | m
            · omega
            · have := up_lt hH _ _ m
              omega
          have go : ∀ H4, Same H H4 → hitP b (i + 1) y = false → ∃ y4, [some (V.ref a), some (V.ref c), some (V.int ((i + 1 : Nat) : Int)), some (V.int (par b (i + 1) : Int)), some (V.int (y : Int))] = [some (V.ref a), some (V.ref c), some (V.int ((i + 1 : Nat) : Int)), some (V.int (par b (i + 1) : Int)), y4] ∧ Same H2 H' ∧ ∀ j z, j < k + 1 → (path l (i + 1))[j]? = some z → hitP b (i + 1) z = false := fun H4 _ hf =>
            ⟨_, rfl, sm', fun j z hj hz => by
              by_cases e : j = k
              · rw [e, hy] at hz
                rw [← Option.some.inj hz]; exact hf
              · exact pk j z (by omega) hz⟩
          refine ⟨.int (par b (i + 1) : Int), rfl, .int (y : Int), rfl, _, _, rfl, rfl, _, rfl, ite2 (fun c1 => ?_) (fun c1 => ?_)⟩
          · have d1 : par b (i + 1) < y := by have := of_decide_eq_true c1; omega
            refine ⟨.ref c, rfl, .int (y : Int), rfl, _, _, rfl, rfl, c, _, _, .int (par b y : Int), rfl, rfl, (s3.trans sm').t hT, par_ix (by omega) (by omega), .int (par b (i + 1) : Int), rfl, _, _, rfl, rfl, _, rfl, ite2 (fun c2 => ?_) (fun c2 => ?_)⟩
            · have d2 : par b y < par b (i + 1) := by have := of_decide_eq_true c2; omega
              refine ⟨.int (y : Int), rfl, .int ((i + 1 : Nat) : Int), rfl, sizeOk (by show 2 ≤ 100000; decide), fun t nt => ?_⟩
              have hit : hitP b (i + 1) y = true := by
                unfold hitP
                rw [decide_eq_true d1, decide_eq_true d2]; rfl
              have fs := crossP_some hi' (find_some_at hy hit fun j z hj hz => pk j z hj hz) pb
              exact kS _ _ fs t _ ((s3.trans sm').free nt) ((s3.trans sm').trans (Same.new nt)) upd_same
            · refine go H' (s3.trans sm') ?_
              unfold hitP
              rw [decide_eq_false (show ¬ par b y < par b (i + 1) from fun z => c2 (decide_eq_true (by omega))), Bool.and_false]
          · refine go H' (s3.trans sm') ?_
            unfold hitP
            rw [decide_eq_false (show ¬ par b (i + 1) < y from fun z => c1 (decide_eq_true (by omega))), Bool.false_and]
        · obtain ⟨y4', rfl, sm', pk⟩ := p
          rw [vn_len] at pk
          refine ⟨_, _, _, rfl, s3.trans sm', fun j hj => ?_⟩
          by_cases e : j = i
          · rw [e]
            exact find_none_all pk
          · exact pb j (by omega)
    · obtain ⟨y2, y3, y4, rfl, sm, pb⟩ := p
      exact kN (crossP_all fun j hj => pb j (by omega)) _ sm
/-- is_plan, of bases -/
def spPlan (K : PySem.W.Frag) : Sp := fun vs H Q _ => ∃ (a c : Addr) (h b : List Nat), vs = [.ref a, .ref c] ∧ SqT K H a (vn h) ∧ SqT K H c (vn b) ∧ Hist h ∧ Bas h b ∧ h.length ≤ 40 ∧ RetV (.bl (decide (crossP h b = none))) H Q
theorem ok_is_plan (B : Bl mg) (D : Dn K mg "is_plan" s_is_plan ["history", "thing"]) (C1 : Ok P w K mg base "is_bases" ["history", "thing"] 5 (spBases K)) (C2 : Ok P w K mg base "first_crossing" ["history", "bases"] 5 (spFirst K)) :
    Ok P w K mg base "is_plan" ["history", "thing"] 6 (spPlan K) := by
  obtain ⟨f, fd, F, g, b⟩ := D.ex
  obtain ⟨f_is_bases, fd_is_bases, g_is_bases, k_is_bases, b_is_bases, G_is_bases⟩ := C1.ex
  obtain ⟨f_first_crossing, fd_first_crossing, g_first_crossing, k_first_crossing, b_first_crossing, G_first_crossing⟩ := C2.ex
  have sc := sc_is_plan
  refine ⟨f, fd, g, F.kp, b, F.ok sc (fun vs H Q E h => ?_) (fun cdv A outer s H vs Q E hr h => ?_)⟩
  · obtain ⟨a, c, l, b, rfl, _⟩ := h
    rfl
  · obtain ⟨a, c, l, b, rfl, hS, hT, hH, hB, hl, k⟩ := h
    refine ⟨_, (pss_one (ps_ret (pe_and (pe_call G_is_bases (hr.mono (by decide)) (by rfl) g_is_bases k_is_bases b_is_bases .nil pass0 (pa_cons (pv 0) (pa_cons (pv 1) pa_nil))) (pe_one (pe_cmpR op_isN (pe_call G_first_crossing (hr.mono (by decide)) (by rfl) g_first_crossing k_first_crossing b_first_crossing .nil pass0 (pa_cons (pv 0) (pa_cons (pv 1) pa_nil))) pe_non (nomark _)))))), ?_⟩
    refine ⟨.ref a, rfl, .ref c, rfl, a, c, l, b, rfl, hS, hT, hH, hB, hl, fun H1 s1 => ⟨true, rfl, iteT ?_⟩⟩
    refine ⟨.ref a, rfl, .ref c, rfl, a, c, l, b, rfl, s1.t hS, s1.t hT, hH, hB, hl, fun e H2 s2 => ?_, fun v z e p H2 n2 s2 e2 => ?_⟩
    · refine ⟨rfl, ?_⟩
      show Q (.bl (decide (V.non = V.non))) H2
      rw [decide_eq_true rfl]
      have := k H2 (s1.trans s2)
      rw [decide_eq_true e] at this
      exact this
    · refine ⟨rfl, ?_⟩
      show Q (.bl (decide (V.ref p = V.non))) H2
      rw [decide_eq_false (fun q => by cases q)]
      have := k H2 (s1.trans s2)
      rw [decide_eq_false (by rw [e]; exact fun q => by cases q)] at this
      exact this
theorem ok_crossing_of (B : Bl mg) (D : Dn K mg "crossing_of" s_crossing_of ["history", "bases"]) (C1 : Ok P w K mg base "is_bases" ["history", "thing"] 5 (spBases K)) (C2 : Ok P w K mg base "first_crossing" ["history", "bases"] 5 (spFirst K)) :
    Ok P w K mg base "crossing_of" ["history", "bases"] 6 (spFirst K) := by
  obtain ⟨f, fd, F, g, b⟩ := D.ex
  obtain ⟨f_is_bases, fd_is_bases, g_is_bases, k_is_bases, b_is_bases, G_is_bases⟩ := C1.ex
  obtain ⟨f_first_crossing, fd_first_crossing, g_first_crossing, k_first_crossing, b_first_crossing, G_first_crossing⟩ := C2.ex
  have sc := sc_crossing_of
  refine ⟨f, fd, g, F.kp, b, F.ok sc (fun vs H Q E h => ?_) (fun cdv A outer s H vs Q E hr h => ?_)⟩
  · obtain ⟨a, c, l, b, rfl, _⟩ := h
    rfl
  · obtain ⟨a, c, l, b, rfl, hS, hT, hH, hB, hl, kN, kS⟩ := h
    refine ⟨_, (pss_cons (ps_if (pt_not (pt_val (pe_call G_is_bases (hr.mono (by decide)) (by rfl) g_is_bases k_is_bases b_is_bases .nil pass0 (pa_cons (pv 0) (pa_cons (pv 1) pa_nil))))) (pss_one ps_never) pss_nil)
    (pss_one (ps_ret (pe_call G_first_crossing (hr.mono (by decide)) (by rfl) g_first_crossing k_first_crossing b_first_crossing .nil pass0 (pa_cons (pv 0) (pa_cons (pv 1) pa_nil)))))), ?_⟩
    refine ⟨.ref a, rfl, .ref c, rfl, a, c, l, b, rfl, hS, hT, hH, hB, hl, fun H1 s1 => ⟨true, rfl, iteF ?_⟩⟩
    exact ⟨.ref a, rfl, .ref c, rfl, a, c, l, b, rfl, s1.t hS, s1.t hT, hH, hB, hl, fun e H2 s2 => kN e H2 (s1.trans s2), fun v z e p H2 n2 s2 e2 => kS v z e p H2 (s1.free n2) (s1.trans s2) e2⟩
def spAskB (K : PySem.W.Frag) : Sp := fun vs H Q _ => ∃ (a c : Addr) (h b : List Nat), vs = [.ref a, .ref c] ∧ SqT K H a (vn h) ∧ SqT K H c (vn b) ∧ Hist h ∧ Bas h b ∧ h.length ≤ 40 ∧ RetV .non H Q
theorem ok_ask_bases (B : Bl mg) (D : Dn K mg "ask_bases" s_ask_bases ["history", "bases"]) (C1 : Ok P w K mg base "is_bases" ["history", "thing"] 5 (spBases K)) :
    Ok P w K mg base "ask_bases" ["history", "bases"] 6 (spAskB K) := by
  obtain ⟨f, fd, F, g, b⟩ := D.ex
  obtain ⟨f_is_bases, fd_is_bases, g_is_bases, k_is_bases, b_is_bases, G_is_bases⟩ := C1.ex
  have sc := sc_ask_bases
  refine ⟨f, fd, g, F.kp, b, F.ok sc (fun vs H Q E h => ?_) (fun cdv A outer s H vs Q E hr h => ?_)⟩
  · obtain ⟨a, c, l, b, rfl, _⟩ := h
    rfl
  · obtain ⟨a, c, l, b, rfl, hS, hT, hH, hB, hl, k⟩ := h
    refine ⟨_, (pss_one (ps_if (pt_not (pt_val (pe_call G_is_bases (hr.mono (by decide)) (by rfl) g_is_bases k_is_bases b_is_bases .nil pass0 (pa_cons (pv 0) (pa_cons (pv 1) pa_nil))))) (pss_one ps_never) pss_nil)), ?_⟩
    exact ⟨.ref a, rfl, .ref c, rfl, a, c, l, b, rfl, hS, hT, hH, hB, hl, fun H1 s1 => ⟨true, rfl, iteF (k H1 s1)⟩⟩
def spAskV (K : PySem.W.Frag) : Sp := fun vs H Q _ => ∃ (a : Addr) (h : List Nat) (n : Str) (v : Nat), vs = [.ref a, .str n, .int (v : Int), .int 0] ∧ SqT K H a (vn h) ∧ v ≤ h.length ∧ Q .non H
theorem ok_ask_version (B : Bl mg) (D : Dn K mg "ask_version" s_ask_version ["history", "word", "version", "least"]) (C1 : Ok P w K mg base "is_number" ["thing"] 2 (spIsNum 0)) (C2 : Ok P w K mg base "many_of" ["history"] 1 (spMany K)) :
    Ok P w K mg base "ask_version" ["history", "word", "version", "least"] 3 (spAskV K) := by
  obtain ⟨f, fd, F, g, b⟩ := D.ex
  obtain ⟨f_is_number, fd_is_number, g_is_number, k_is_number, b_is_number, G_is_number⟩ := C1.ex
  obtain ⟨f_many_of, fd_many_of, g_many_of, k_many_of, b_many_of, G_many_of⟩ := C2.ex
  have sc := sc_ask_version
  refine ⟨f, fd, g, F.kp, b, F.ok sc (fun vs H Q E h => ?_) (fun cdv A outer s H vs Q E hr h => ?_)⟩
  · obtain ⟨a, l, n, v, rfl, _⟩ := h
    rfl
  · obtain ⟨a, l, n, v, rfl, hS, hv, k⟩ := h
    refine ⟨_, (pss_one (ps_if (pt_not (PW.pt (pw_and (pt_val (pe_call G_is_number (hr.mono (by decide)) (by rfl) g_is_number k_is_number b_is_number .nil pass0 (pa_cons (pv 2) pa_nil))) (pw_and1 (pt_chain op_le op_le (pv 3) (pv 2) (pe_call G_many_of (hr.mono (by decide)) (by rfl) g_many_of k_many_of b_many_of .nil pass0 (pa_cons (pv 0) pa_nil))))))) (pss_one ps_never) pss_nil)), ?_⟩
    refine ⟨_, rfl, (v : Int), rfl, by omega, true, rfl, iteT ?_⟩
    refine ⟨.int 0, rfl, .int (v : Int), rfl, 0, (v : Int), rfl, rfl, true, blT (show (0 : Int) ≤ (v : Int) by omega), ?_⟩
    exact iteT ⟨.ref a, rfl, a, l, rfl, hS, (v : Int), _, rfl, rfl, true, blT (show (v : Int) ≤ (l.length : Int) by omega), iteF k⟩
/-- chain_from(bases, version) -/
def spChF (K : PySem.W.Frag) : Sp := fun vs H Q _ => ∃ (c : Addr) (b : List Nat) (v : Nat), vs = [.ref c, .int (v : Int)] ∧ SqT K H c (vn b) ∧ Hist b ∧ v ≤ b.length ∧ b.length ≤ 40 ∧ RetL (vn (chain b v)) H Q
theorem chain_short {b : List Nat} (H : Hist b) : ∀ v, (chain b v).length ≤ v := by
  intro v
  induction v using Nat.strongRecOn with
  | ind v ih =>
    by_cases e : v = 0
    · rw [e, chain_zero]; exact Nat.le_refl _
    · have hp := par_lt H (v := v) (by omega)
      rw [chain_step H (by omega), List.length_cons]
      have := ih _ hp
      omega
theorem ok_chain_from (B : Bl mg) (D : Dn K mg "chain_from" s_chain_from ["bases", "version"]) : Ok P w K mg base "chain_from" ["bases", "version"] 1 (spChF K) := by
  obtain ⟨f, fd, F, g, b⟩ := D.ex
  have sc := sc_chain_from
  refine ⟨f, fd, g, F.kp, b, F.ok sc (fun vs H Q E h => ?_) (fun cdv A outer s H vs Q E hr h => ?_)⟩
  · obtain ⟨a, l, v, rfl, _⟩ := h
    rfl
  · obtain ⟨a, l, v, rfl, hS, hH, hv, hl, k⟩ := h
    refine ⟨_, (pss_cons (ps_set (i := 2) sc.nd rfl (Or.inl rfl) (pe_lst pa_nil))
    (pss_cons (ps_while PassesOwn.never (pt_cmpR op_gt (pv 1) pe_int (nomark _)) (pss_cons (ps_expr (pe_bm PySem.F.plainAttrs_list PySem.F.slot_list_append PySem.F.type_list_append mt_append (pv 2) (pa_cons (pv 1) pa_nil)))
    (pss_one (ps_set (i := 1) sc.nd rfl (Or.inl rfl) (pe_ix ix_tup (pv 0) (pe_op op_sub (pv 1) pe_int) (fun _ _ => rfl))))))
    (pss_one (ps_ret (pv 2))))), ?_⟩
    refine ⟨Nat.zero_le _, fun p np => ?_⟩
    refine ⟨fun m σ H1 => ∃ (u : Nat) (done : List Nat), m = u ∧ σ = [some (.ref a), some (.int (u : Int)), some (.ref p)] ∧ u ≤ l.length ∧ done ++ chain l u = chain l v ∧ Same H H1 ∧ H1 p = some (.lst (vn done)),
      ⟨v, v, [], rfl, rfl, hv, rfl, Same.new np, upd_same⟩, fun m σ H1 hW => ?_⟩
    obtain ⟨_, done, rfl, rfl, hu, hd, sm, hp⟩ := hW
    refine ⟨_, rfl, _, _, rfl, rfl, _, rfl, ?_⟩
    refine ite2 (fun c => ?_) (fun c => ?_)
    · have c1 : 1 ≤ m := by have := of_decide_eq_true c; omega
      have hlt := par_lt hH c1
      refine ⟨fun σ' H' => ∃ (u' : Nat) (done' : List Nat), u' < m ∧ σ' = [some (.ref a), some (.int (u' : Int)), some (.ref p)] ∧ u' ≤ l.length ∧ done' ++ chain l u' = chain l v ∧ Same H H' ∧ H' p = some (.lst (vn done')), fun σ' H' ⟨u', d', h1, h2, h3, h4, h5, h6⟩ => ⟨u', h1, u', d', rfl, h2, h3, h4, h5, h6⟩, ?_⟩
      have el : done.length ≤ 40 := by
        have := congrArg List.length hd
        rw [List.length_append] at this
        have := chain_short hH v
        omega
      refine ⟨.ref p, rfl, .inl ⟨rfl, _, SqL.of hp⟩, .int (m : Int), rfl, p, _, _, rfl, rfl, hp, ?_, ?_⟩
      · rw [vn_len]; exact sizeLt (by omega)
      · have s2 : Same H (upd H1 p (.lst (vn done ++ [.int (m : Int)]))) := Same.mut sm np
        refine ⟨.ref a, rfl, .int (m : Int), rfl, _, _, rfl, rfl, a, _, _, _, rfl, rfl, s2.t hS, par_ix c1 hu, ?_⟩
        refine ⟨par l m, done ++ [m], hlt, rfl, by omega, ?_, s2, ?_⟩
        · rw [List.append_assoc, List.singleton_append, ← chain_step hH c1]
          exact hd
        · rw [upd_same, vn_snoc]
    · have c0 : m = 0 := by
        by_cases z : m = 0
        · exact z
        · exact absurd (decide_eq_true (show (0 : Int) < (m : Int) by omega)) c
      subst c0
      rw [chain_zero, List.append_nil] at hd
      subst hd
      exact ⟨_, rfl, k p H1 np sm hp⟩
/-- sheet_from(history, bases, version) -/
def spSheet (K : PySem.W.Frag) : Sp := fun vs H Q _ => ∃ (a c : Addr) (h b : List Nat) (v : Nat), vs = [.ref a, .ref c, .int (v : Int)] ∧ SqT K H a (vn h) ∧ SqT K H c (vn b) ∧ Hist h ∧ b.length = h.length ∧ 1 ≤ v ∧ v ≤ h.length ∧ h.length ≤ 40 ∧ RetT (vn (sheet h b v)) H Q
theorem path_short {h : List Nat} (H : Hist h) (v : Nat) : (path h v).length ≤ v + 1 := by
  unfold path
  have h1 := List.length_filter_le (fun e => decide (0 < e)) (v :: up h v).reverse
  rw [List.length_reverse, List.length_cons] at h1
  have := up_len H v
  omega
theorem ok_sheet_from (B : Bl mg) (D : Dn K mg "sheet_from" s_sheet_from ["history", "bases", "version"]) (C2 : Ok P w K mg base "path_of" ["history", "version"] 4 (spPath K)) :
    Ok P w K mg base "sheet_from" ["history", "bases", "version"] 5 (spSheet K) := by
  obtain ⟨f, fd, F, g, b⟩ := D.ex
  obtain ⟨f_path_of, fd_path_of, g_path_of, k_path_of, b_path_of, G_path_of⟩ := C2.ex
  have sc := sc_sheet_from
  refine ⟨f, fd, g, F.kp, b, F.ok sc (fun vs H Q E h => ?_) (fun cdv A outer s H vs Q E hr h => ?_)⟩
  · obtain ⟨a, c, l, b, v, rfl, _⟩ := h
    rfl
  · obtain ⟨a, c, l, b, v, rfl, hS, hT, hH, hbl, h1, hv, hl, k⟩ := h
    refine ⟨_, (pss_one (ps_ret (pe_callTy call_tuple_of (by rfl) B.n_tuple (by decide +kernel) (pa_cons (pe_lc (own := [("change", 3)]) rfl sc.nd (pi_tup (pe_call G_path_of (hr.mono (by decide)) (by rfl) g_path_of k_path_of b_path_of .nil pass0 (pa_cons (pv 0) (pa_cons (pv 2) pa_nil)))) (blkOk_by (N := N_sheet_from) (sc := defScope s_sheet_from) (by decide +kernel)) (fun _ _ _ _ _ => pg_name (i := 3) sc.nd rfl (Or.inl rfl)) (fun _ _ _ _ _ => pts_one ((pt_cmpR op_gt (pv 3) (pe_ix (show IxR _ (rIxT K) from ix_tup) (pv 1) (pe_op op_sub (pv 2) pe_int) (fun _ _ => rfl)) (nomark _)))) (fun _ _ _ _ _ => (pv 3))) pa_nil)))), ?_⟩
    refine ⟨.ref a, rfl, .int (v : Int), rfl, a, l, v, rfl, hS, hH, hv, hl, fun p H1 n1 s1 e1 => ?_⟩
    refine ⟨p, rfl, ⟨_, SqT.of e1⟩, fun D nD => ?_⟩
    refine lc_it (walk_tup (K := K) (a := p) (xs := vn (path l v))) (fun i H' => Same H1 H' ∧ H' D = some (.lst (vn (((path l v).take i).filter fun e => decide (par b v < e))))) ⟨Same.new nD, upd_same⟩
      (fun i H' _ p => p.1.t (SqT.of e1)) (fun i x H' H'' hi p y => ?_) (fun H' p => ?_)
    · obtain ⟨rfl, hx⟩ := y
      obtain ⟨y, hy, rfl⟩ := vn_of hx
      have len := filt_take_len (fun e => decide (par b v < e)) (path l v) i
      have pl := path_short hH v
      refine ⟨rfl, .int (y : Int), rfl, .ref c, rfl, .int (v : Int), rfl, _, _, rfl, rfl, c, _, _, .int (par b v : Int), rfl, rfl, (s1.trans p.1).t hT, par_ix h1 (by omega), _, _, rfl, rfl, _, rfl, ite2 (fun c1 => ?_) (fun c1 => ?_)⟩
      · have c0 : par b v < y := by have := of_decide_eq_true c1; omega
        refine ⟨.int (y : Int), rfl, _, p.2, sizeLt (by rw [vn_len]; omega), Same.mut p.1 nD, ?_⟩
        rw [upd_same, vn_snoc, filt_yes hy (decide_eq_true c0)]
      · have c0 : ¬ par b v < y := fun z => c1 (decide_eq_true (by omega))
        refine ⟨p.1, ?_⟩
        rw [filt_no hy (by simpa using c0)]
        exact p.2
    · obtain ⟨sm, hD⟩ := p
      rw [vn_len, List.take_length] at hD
      refine ⟨D, _, rfl, .inl ⟨SqL.of hD, fun q nq => ?_⟩⟩
      exact k q _ ((s1.trans sm).free nq) ((s1.trans sm).trans (Same.new nq)) upd_same
def spChain (K : PySem.W.Frag) : Sp := fun vs H Q _ => ∃ (a c : Addr) (h b : List Nat) (v : Nat), vs = [.ref a, .ref c, .int (v : Int)] ∧ SqT K H a (vn h) ∧ SqT K H c (vn b) ∧ Hist h ∧ Bas h b ∧ v ≤ h.length ∧ h.length ≤ 40 ∧ RetT (vn (chain b v)) H Q
theorem ok_chain_of (B : Bl mg) (D : Dn K mg "chain_of" s_chain_of ["history", "bases", "version"]) (C1 : Ok P w K mg base "ask_bases" ["history", "bases"] 6 (spAskB K)) (C2 : Ok P w K mg base "ask_version" ["history", "word", "version", "least"] 3 (spAskV K)) (C3 : Ok P w K mg base "chain_from" ["bases", "version"] 1 (spChF K)) :
    Ok P w K mg base "chain_of" ["history", "bases", "version"] 7 (spChain K) := by
  obtain ⟨f, fd, F, g, b⟩ := D.ex
  obtain ⟨f_ask_bases, fd_ask_bases, g_ask_bases, k_ask_bases, b_ask_bases, G_ask_bases⟩ := C1.ex
  obtain ⟨f_ask_version, fd_ask_version, g_ask_version, k_ask_version, b_ask_version, G_ask_version⟩ := C2.ex
  obtain ⟨f_chain_from, fd_chain_from, g_chain_from, k_chain_from, b_chain_from, G_chain_from⟩ := C3.ex
  have sc := sc_chain_of
  refine ⟨f, fd, g, F.kp, b, F.ok sc (fun vs H Q E h => ?_) (fun cdv A outer s H vs Q E hr h => ?_)⟩
  · obtain ⟨a, c, l, b, v, rfl, _⟩ := h
    rfl
  · obtain ⟨a, c, l, b, v, rfl, hS, hT, hH, hB, hv, hl, k⟩ := h
    refine ⟨_, (pss_cons (ps_expr (pe_call G_ask_bases (hr.mono (by decide)) (by rfl) g_ask_bases k_ask_bases b_ask_bases .nil pass0 (pa_cons (pv 0) (pa_cons (pv 1) pa_nil))))
    (pss_cons (ps_expr (pe_call G_ask_version (hr.mono (by decide)) (by rfl) g_ask_version k_ask_version b_ask_version .nil pass0 (pa_cons (pv 0) (pa_cons pe_str (pa_cons (pv 2) (pa_cons pe_int pa_nil))))))
    (pss_one (ps_ret (pe_callTy call_tuple_of (by rfl) B.n_tuple (by decide +kernel) (pa_cons (pe_call G_chain_from (hr.mono (by decide)) (by rfl) g_chain_from k_chain_from b_chain_from .nil pass0 (pa_cons (pv 1) (pa_cons (pv 2) pa_nil))) pa_nil)))))), ?_⟩
    refine ⟨.ref a, rfl, .ref c, rfl, a, c, l, b, rfl, hS, hT, hH, hB, hl, fun H1 s1 => ?_⟩
    refine ⟨.ref a, rfl, .int (v : Int), rfl, a, l, _, v, rfl, s1.t hS, hv, ?_⟩
    refine ⟨.ref c, rfl, .int (v : Int), rfl, c, b, v, rfl, s1.t hT, hB.hist hH, by rw [hB.1]; exact hv, by rw [hB.1]; exact hl, fun p H2 n2 s2 e2 => ?_⟩
    refine ⟨p, _, rfl, .inl ⟨SqL.of e2, fun q nq => ?_⟩⟩
    exact k q _ ((s1.trans s2).free nq) ((s1.trans s2).trans (Same.new nq)) upd_same
def spReads (K : PySem.W.Frag) : Sp := fun vs H Q _ => ∃ (a c : Addr) (h b : List Nat), vs = [.ref a, .ref c] ∧ SqT K H a (vn h) ∧ SqT K H c (vn b) ∧ Hist h ∧ Bas h b ∧ h.length ≤ 40 ∧ RetT (vn (reads b)) H Q
theorem reads_at {b : List Nat} (H : Hist b) {i x : Nat} (h : b[i]? = some x) : (reads (b.take i))[x]? = some ((reads (b.take i)).getD x 0) := by
  have hx := H i x h
  have hi := (List.getElem?_eq_some_iff.mp h).1
  have hl : x < (reads (b.take i)).length := by rw [reads_length, List.length_take]; omega
  rw [getD_getElem?, List.getElem?_eq_getElem hl]; rfl
theorem reads_next {b : List Nat} {i x : Nat} (h : b[i]? = some x) : reads (b.take (i + 1)) = reads (b.take i) ++ [(reads (b.take i)).getD x 0 + 1] := by
  rw [take_snoc h, reads_snoc]
theorem ok_reads_by (B : Bl mg) (D : Dn K mg "reads_by" s_reads_by ["history", "bases"]) (C1 : Ok P w K mg base "ask_bases" ["history", "bases"] 6 (spAskB K)) : Ok P w K mg base "reads_by" ["history", "bases"] 7 (spReads K) := by
  obtain ⟨f, fd, F, g, b⟩ := D.ex
  obtain ⟨f_ask_bases, fd_ask_bases, g_ask_bases, k_ask_bases, b_ask_bases, G_ask_bases⟩ := C1.ex
  have sc := sc_reads_by
  refine ⟨f, fd, g, F.kp, b, F.ok sc (fun vs H Q E h => ?_) (fun cdv A outer s H vs Q E hr h => ?_)⟩
  · obtain ⟨a, c, l, b, rfl, _⟩ := h
    rfl
  · obtain ⟨a, c, l, b, rfl, hS, hT, hH, hB, hl, k⟩ := h
    have hbl := hB.1
    refine ⟨_, (pss_cons (ps_expr (pe_call G_ask_bases (hr.mono (by decide)) (by rfl) g_ask_bases k_ask_bases b_ask_bases .nil pass0 (pa_cons (pv 0) (pa_cons (pv 1) pa_nil))))
    (pss_cons (ps_set (i := 2) sc.nd rfl (Or.inl rfl) (pe_lst (pa_cons pe_int pa_nil)))
    (pss_cons (ps_for PassesOwn.never rfl (pi_tup (pv 1)) (pg_name (i := 3) sc.nd rfl (Or.inl rfl))
      (pss_one (ps_expr (pe_bm PySem.F.plainAttrs_list PySem.F.slot_list_append PySem.F.type_list_append mt_append (pv 2) (pa_cons (pe_op op_add (pe_ix ix_list (pv 2) (pv 3) (fun _ _ => rfl)) pe_int) pa_nil)))))
    (pss_one (ps_ret (pe_callTy call_tuple_of (by rfl) B.n_tuple (by decide +kernel) (pa_cons (pv 2) pa_nil))))))), ?_⟩
    refine ⟨.ref a, rfl, .ref c, rfl, a, c, l, b, rfl, hS, hT, hH, hB, hl, fun H1 s1 => ?_⟩
    refine ⟨sizeOk (by show 1 ≤ 100000; decide), fun p np => ?_⟩
    have n0 := s1.free np
    refine ⟨.ref c, rfl, c, rfl, ⟨_, (s1.trans (Same.new np)).t hT⟩, for_tup (K := K) (a := c) (xs := vn b) (fun i σ H' => ∃ y3, σ = [some (.ref a), some (.ref c), some (.ref p), y3] ∧ Same H H' ∧ H' p = some (.lst (vn (reads (b.take i)))))
      ⟨none, rfl, s1.trans (Same.new np), upd_same⟩ (fun i σ H' _ ⟨_, _, sm, _⟩ => sm.t hT) (fun i x σ H' hx q => ?_) (fun σ H' q => ?_)⟩
    · obtain ⟨y3, rfl, sm, hp⟩ := q
      obtain ⟨y, hy, rfl⟩ := vn_of hx
      have hi := (List.getElem?_eq_some_iff.mp hy).1
      have hlen : (reads (b.take i)).length ≤ 41 := by rw [reads_length, List.length_take]; omega
      refine ⟨.ref p, rfl, .inl ⟨rfl, _, SqL.of hp⟩, .ref p, rfl, .int (y : Int), rfl, p, _, _, .int (((reads (b.take i)).getD y 0 : Nat) : Int), rfl, rfl, SqL.of hp, nat_ix (reads_at (hB.hist hH) hy), _, _, rfl, rfl, p, _, _, rfl, rfl, hp, ?_, ?_⟩
      · rw [vn_len]; exact sizeLt (by omega)
      · refine ⟨_, rfl, Same.mut sm n0, ?_⟩
        rw [upd_same, reads_next hy, ← vn_snoc]
        rfl
    · obtain ⟨y3, rfl, sm, hp⟩ := q
      rw [vn_len, List.take_length] at hp
      refine ⟨.ref p, rfl, p, _, rfl, .inl ⟨SqL.of hp, fun q nq => ?_⟩⟩
      exact k q _ (sm.free nq) (sm.trans (Same.new nq)) upd_same
def spWrites (K : PySem.W.Frag) : Sp := fun vs H Q _ => ∃ (a c : Addr) (h b : List Nat), vs = [.ref a, .ref c] ∧ SqT K H a (vn h) ∧ SqT K H c (vn b) ∧ Hist h ∧ Bas h b ∧ h.length ≤ 40 ∧ RetT (vn (writesP h b)) H Q
theorem flat_next {f : Nat → List Nat} (i : Nat) : (List.range (i + 1)).flatMap f = (List.range i).flatMap f ++ f i := by
  rw [List.range_succ, List.flatMap_append, List.flatMap_cons, List.flatMap_nil, List.append_nil]
theorem bumps_next {l xs : List Nat} {i x : Nat} (h : xs[i]? = some x) : bumps l (xs.take (i + 1)) = bump (bumps l (xs.take i)) x := by
  rw [take_snoc h, bumps_app]; rfl
theorem getD_some {l : List Nat} {i : Nat} (h : i < l.length) : l[i]? = some (l.getD i 0) := by
  rw [getD_getElem?, List.getElem?_eq_getElem h]; rfl
theorem ok_writes_by (B : Bl mg) (D : Dn K mg "writes_by" s_writes_by ["history", "bases"]) (C1 : Ok P w K mg base "ask_bases" ["history", "bases"] 6 (spAskB K)) (C2 : Ok P w K mg base "many_of" ["history"] 1 (spMany K)) (C3 : Ok P w K mg base "sheet_from" ["history", "bases", "version"] 5 (spSheet K)) :
    Ok P w K mg base "writes_by" ["history", "bases"] 7 (spWrites K) := by
  obtain ⟨f, fd, F, g, b⟩ := D.ex
  obtain ⟨f_ask_bases, fd_ask_bases, g_ask_bases, k_ask_bases, b_ask_bases, G_ask_bases⟩ := C1.ex
  obtain ⟨f_many_of, fd_many_of, g_many_of, k_many_of, b_many_of, G_many_of⟩ := C2.ex
  obtain ⟨f_sheet_from, fd_sheet_from, g_sheet_from, k_sheet_from, b_sheet_from, G_sheet_from⟩ := C3.ex
  have sc := sc_writes_by
  refine ⟨f, fd, g, F.kp, b, F.ok sc (fun vs H Q E h => ?_) (fun cdv A outer s H vs Q E hr h => ?_)⟩
  · obtain ⟨a, c, l, b, rfl, _⟩ := h
    rfl
  · obtain ⟨a, c, l, b, rfl, hS, hT, hH, hB, hl, k⟩ := h
    have hbl := hB.1
    refine ⟨_, (pss_cons (ps_expr (pe_call G_ask_bases (hr.mono (by decide)) (by rfl) g_ask_bases k_ask_bases b_ask_bases .nil pass0 (pa_cons (pv 0) (pa_cons (pv 1) pa_nil))))
    (pss_cons (ps_set (i := 2) sc.nd rfl (Or.inl rfl) (pe_op op_rep (pe_lst (pa_cons pe_int pa_nil)) (pe_op op_add (pe_call G_many_of (hr.mono (by decide)) (by rfl) g_many_of k_many_of b_many_of .nil pass0 (pa_cons (pv 0) pa_nil)) pe_int)))
    (pss_cons (ps_for PassesOwn.never rfl (pi_range2 (by rfl) B.n_range (pa_cons pe_int (pa_cons (pe_op op_add (pe_call G_many_of (hr.mono (by decide)) (by rfl) g_many_of k_many_of b_many_of .nil pass0 (pa_cons (pv 0) pa_nil)) pe_int) pa_nil))) (pg_name (i := 3) sc.nd rfl (Or.inl rfl))
      (pss_one (ps_for PassesOwn.never rfl (pi_tup (pe_call G_sheet_from (hr.mono (by decide)) (by rfl) g_sheet_from k_sheet_from b_sheet_from .nil pass0 (pa_cons (pv 0) (pa_cons (pv 1) (pa_cons (pv 3) pa_nil))))) (pg_name (i := 4) sc.nd rfl (Or.inl rfl))
      (pss_one (ps_augL58 (pv 2) (pv 4) pe_int)))))
    (pss_one (ps_ret (pe_callTy call_tuple_of (by rfl) B.n_tuple (by decide +kernel) (pa_cons (pe_slice sl_list (pv 2) (po_some pe_int) po_none) pa_nil))))))), ?_⟩
    refine ⟨.ref a, rfl, .ref c, rfl, a, c, l, b, rfl, hS, hT, hH, hB, hl, fun H1 s1 => ?_⟩
    refine ⟨sizeOk (by show 1 ≤ 100000; decide), fun p1 n1 => ?_⟩
    have s2 := s1.trans (Same.new (o := .lst [.int 0]) n1)
    refine ⟨.ref a, rfl, a, l, rfl, s2.t hS, _, _, rfl, rfl, p1, _, _, rfl, rfl, upd_same, by omega, by omega, sizeOk ?_, fun p np => ?_⟩
    · show 1 * ((l.length : Int) + 1).toNat ≤ 100000
      omega
    have ek : ((l.length : Int) + 1).toNat = l.length + 1 := by omega
    have e0 : (List.replicate ((l.length : Int) + 1).toNat [V.int 0]).flatten = vn (List.replicate (l.length + 1) 0) := by
      rw [ek]; exact vn_rep _ 0
    rw [e0]
    have s3 := s2.trans (Same.new (o := .lst (vn (List.replicate (l.length + 1) 0))) np)
    have n0 := s2.free np
    have e3 : (upd (upd H1 p1 (.lst [.int 0])) p (.lst (vn (List.replicate (l.length + 1) 0)))) p = some (.lst (vn (List.replicate (l.length + 1) 0))) := upd_same
    generalize upd (upd H1 p1 (.lst [.int 0])) p (.lst (vn (List.replicate (l.length + 1) 0))) = H3 at s3 e3
    refine ⟨.ref a, rfl, a, l, rfl, s3.t hS, _, _, rfl, rfl, 1, _, rfl, ⟨by omega, by omega, by omega, by omega⟩, ?_⟩
    refine for_range (lo := 1) (n := ((l.length : Int) + 1 - 1).toNat) (fun i σ H' => ∃ y3 y4, σ = [some (.ref a), some (.ref c), some (.ref p), y3, y4] ∧ Same H H' ∧ H' p = some (.lst (vn (bumps (List.replicate (l.length + 1) 0) ((List.range i).flatMap fun i => sheet l b (i + 1))))))
      ⟨none, none, rfl, s3, e3⟩ (fun i σ H' hi q => ?_) (fun σ H' q => ?_)
    · obtain ⟨y3, y4, rfl, sm, hp⟩ := q
      have hi' : i < l.length := by omega
      have ez : (1 : Int) + (i : Int) = ((i + 1 : Nat) : Int) := by omega
      refine ⟨.ref a, rfl, .ref c, rfl, .int (1 + (i : Int)), rfl, a, c, l, b, i + 1, by rw [ez]; rfl, sm.t hS, sm.t hT, hH, hbl, by omega, by omega, hl, fun q H2 n2 s4 e4 => ?_⟩
      refine ⟨q, rfl, ⟨_, SqT.of e4⟩, for_tup (K := K) (a := q) (xs := vn (sheet l b (i + 1))) (fun j σ H' => ∃ y3 y4, σ = [some (.ref a), some (.ref c), some (.ref p), y3, y4] ∧ Same H H' ∧ SqT K H' q (vn (sheet l b (i + 1))) ∧ H' p = some (.lst (vn (bumps (bumps (List.replicate (l.length + 1) 0) ((List.range i).flatMap fun i => sheet l b (i + 1))) ((sheet l b (i + 1)).take j)))))
        ⟨_, y4, rfl, sm.trans s4, SqT.of e4, s4 _ _ hp⟩ (fun k σ H' _ ⟨_, _, _, _, h, _⟩ => h) (fun j x σ H' hx r => ?_) (fun σ H' r => ?_)⟩
      · obtain ⟨y3', y4', rfl, sm', hq, hp'⟩ := r
        obtain ⟨y, hy, rfl⟩ := vn_of hx
        have ym := List.mem_filter.mp (List.mem_of_getElem? hy)
        have ym2 := path_mem.mp ym.1
        have yl : y ≤ l.length := by
          rcases ym2.1 with e | m
          · omega
          · have := up_lt hH _ _ m
            omega
        have hlen : (bumps (bumps (List.replicate (l.length + 1) 0) ((List.range i).flatMap fun i => sheet l b (i + 1))) ((sheet l b (i + 1)).take j)).length = l.length + 1 := by rw [bumps_len, bumps_len, List.length_replicate]
        generalize hz : bumps (bumps (List.replicate (l.length + 1) 0) ((List.range i).flatMap fun i => sheet l b (i + 1))) ((sheet l b (i + 1)).take j) = acc at hp' hlen
        have ha := getD_some (l := acc) (i := y) (by omega)
        have pq : q ≠ p := fun e => by
          rw [e] at n2
          rw [n2] at hp
          cases hp
        refine ⟨.ref p, rfl, .int (y : Int), rfl, p, vn acc, y, _, rfl, rfl, SqL.of hp', vn_some ha, _, _, rfl, rfl, p, vn acc, _, y, rfl, rfl, hp', ?_, ?_⟩
        · rw [vn_len]
          exact Evl.ixN_nat (by omega)
        · refine ⟨_, _, rfl, Same.mut sm' n0, ?_, ?_⟩
          · rcases hq with (h | ⟨o, h⟩) | h
            · exact .inl (.inl (by rw [upd_ne pq]; exact h))
            · exact .inl (.inr ⟨o, by rw [upd_ne pq]; exact h⟩)
            · exact .inr h
          · rw [upd_same, bumps_next hy, hz]
            exact congrArg (fun z => some (HO.lst z)) (vn_set acc y (acc.getD y 0 + 1))
      · obtain ⟨y3', y4', rfl, sm', hq, hp'⟩ := r
        rw [vn_len, List.take_length, ← bumps_app, ← flat_next (f := fun i => sheet l b (i + 1))] at hp'
        exact ⟨_, _, rfl, sm', hp'⟩
    · obtain ⟨y3, y4, rfl, sm, hp⟩ := q
      rw [show ((l.length : Int) + 1 - 1).toNat = l.length by omega] at hp
      refine ⟨.ref p, rfl, 1, rfl, p, _, rfl, SqL.of hp, fun q nq => ?_⟩
      refine ⟨q, _, rfl, .inl ⟨SqL.of upd_same, fun q2 nq2 => ?_⟩⟩
      have s5 := sm.trans (Same.new (o := .lst (cutV (vn (bumps (List.replicate (l.length + 1) 0) ((List.range l.length).flatMap fun i => sheet l b (i + 1)))) (some 1) none)) nq)
      refine k q2 _ (s5.free nq2) (s5.trans (Same.new nq2)) ?_
      rw [upd_same, cut1, vn_drop]
      rfl
end
end K58

/-! K58D: heights. -/
namespace K58
open PySem PySem.Spec PyProof.Rows L2
abbrev s_is_heights : Stmt := topS 30
abbrev N_is_heights : List Str := ["history", "thing", "height"]
theorem sc_is_heights : FnScope N_is_heights ["history", "thing"] (defScope s_is_heights) := ⟨rfl, rfl, rfl, by decide +kernel, rfl, by decide +kernel, by decide +kernel⟩
abbrev s_bases_by : Stmt := topS 31
abbrev N_bases_by : List Str := ["history", "heights", "bases", "height", "parent", "elder"]
theorem sc_bases_by : FnScope N_bases_by ["history", "heights"] (defScope s_bases_by) := ⟨rfl, rfl, rfl, by decide +kernel, rfl, by decide +kernel, by decide +kernel⟩
abbrev s_heights_of : Stmt := topS 32
abbrev N_heights_of : List Str := ["history", "bases", "reads", "greatest", "many"]
theorem sc_heights_of : FnScope N_heights_of ["history", "bases"] (defScope s_heights_of) := ⟨rfl, rfl, rfl, by decide +kernel, rfl, by decide +kernel, by decide +kernel⟩
abbrev s_records_of : Stmt := topS 33
abbrev N_records_of : List Str := ["history", "heights", "version", "bases", "records", "step"]
theorem sc_records_of : FnScope N_records_of ["history", "heights", "version"] (defScope s_records_of) := ⟨rfl, rfl, rfl, by decide +kernel, rfl, by decide +kernel, by decide +kernel⟩
section
variable {P : Program} {w : World} {K : PySem.W.Frag} {mg : Str → Option Value} {base : Heap}
/-- bools, all true -/
def tru (n : Nat) : List Bool := List.replicate n true
theorem tru_next (n : Nat) : (tru (n + 1)).map V.bl = (tru n).map V.bl ++ [.bl true] := by
  unfold tru
  rw [List.replicate_succ', List.map_append]; rfl
theorem tru_all (n : Nat) : (tru n).all id = true := by
  unfold tru
  rw [List.all_replicate]
  split <;> rfl
theorem tru_len (n : Nat) : ((tru n).map V.bl).length = n := by
  unfold tru
  rw [List.length_map, List.length_replicate]
def spHts (K : PySem.W.Frag) : Sp := fun vs H Q _ => ∃ (a c : Addr) (h hs : List Nat), vs = [.ref a, .ref c] ∧ SqT K H a (vn h) ∧ SqT K H c (vn hs) ∧ Hts h hs ∧ h.length ≤ 40 ∧ RetV (.bl true) H Q
theorem ok_is_heights (B : Bl mg) (D : Dn K mg "is_heights" s_is_heights ["history", "thing"]) (C1 : Ok P w K mg base "is_natural" ["thing"] 2 (spIsNum 1)) : Ok P w K mg base "is_heights" ["history", "thing"] 3 (spHts K) := by
  obtain ⟨f, fd, F, g, b⟩ := D.ex
  obtain ⟨f_is_natural, fd_is_natural, g_is_natural, k_is_natural, b_is_natural, G_is_natural⟩ := C1.ex
  have sc := sc_is_heights
  refine ⟨f, fd, g, F.kp, b, F.ok sc (fun vs H Q E h => ?_) (fun cdv A outer s H vs Q E hr h => ?_)⟩
  · obtain ⟨a, c, l, b, rfl, _⟩ := h
    rfl
  · obtain ⟨a, c, l, hs, rfl, hS, hT, hB, hl, k⟩ := h
    refine ⟨_, (pss_cons (ps_if (PW.pt (pw_or (pt_not (pt_val (pe_callB call_isi (by rfl) B.n_isinstance (by decide +kernel) (pa_cons (pv 1) (pa_cons (pe_bltn (v := .ty "tuple") (by rfl) B.n_tuple (by decide +kernel) rfl) pa_nil))))) (pw_or1 (pt_cmpR op_ne (pe_callB call_len_seq (by rfl) B.n_len PySem.boot_len (pa_cons (pv 1) pa_nil)) (pe_callB call_len_seq (by rfl) B.n_len PySem.boot_len (pa_cons (pv 0) pa_nil)) (nomark _))))) (pss_one (ps_ret pe_bl)) pss_nil)
    (pss_one (ps_ret (pe_callB (cr_all rfl) (by rfl) B.n_all (by decide +kernel) (pa_cons (pe_lc (own := [("height", 2)]) rfl sc.nd (pi_tup (pv 1)) (blkOk_by (N := N_is_heights) (sc := defScope s_is_heights) (by decide +kernel)) (fun _ _ _ _ _ => pg_name (i := 2) sc.nd rfl (Or.inl rfl)) (fun _ _ _ _ _ => pts_nil) (fun _ _ _ _ _ => (pe_call G_is_natural (hr.mono (by decide)) (by rfl) g_is_natural k_is_natural b_is_natural .nil pass0 (pa_cons (pv 2) pa_nil)))) pa_nil))))), ?_⟩
    refine ⟨.ref c, rfl, _, _, _, _, true, rfl, .ty _, tyx_tup hT, kit_tt, true, rfl, iteF ?_⟩
    refine ⟨.ref c, rfl, c, _, rfl, .inr hT, .ref a, rfl, a, _, rfl, .inr hS, rfl, false, ?_, iteF ?_⟩
    · show V.bl (!decide (V.int ((vn hs).length : Int) = V.int ((vn l).length : Int))) = V.bl false
      rw [vn_len, vn_len, hB.1, decide_eq_true rfl]; rfl
    refine ⟨.ref c, rfl, c, rfl, ⟨_, hT⟩, fun Dl nD => ?_⟩
    refine lc_it (walk_tup (K := K) (a := c) (xs := vn hs)) (fun i H' => Same H H' ∧ H' Dl = some (.lst ((tru i).map V.bl))) ⟨Same.new nD, upd_same⟩
      (fun i H' _ p => p.1.t hT) (fun i x H' H'' hi p y => ?_) (fun H' p => ?_)
    · obtain ⟨rfl, hx⟩ := y
      obtain ⟨y, hy, rfl⟩ := vn_of hx
      rw [vn_len] at hi
      have hy1 := hB.2 y (List.mem_of_getElem? hy)
      have hhl := hB.1
      refine ⟨rfl, .int (y : Int), rfl, (y : Int), rfl, by omega, _, p.2, sizeLt (by rw [tru_len]; omega), Same.mut p.1 nD, ?_⟩
      rw [upd_same, tru_next]
    · refine ⟨Dl, _, rfl, SqL.of p.2, ?_⟩
      show Q (.bl ((tru (vn hs).length).all id)) H'
      rw [tru_all]
      exact k _ p.1
/-- bases_by(history, heights): the nearest higher elders -/
def spBy (K : PySem.W.Frag) : Sp := fun vs H Q _ => ∃ (a c : Addr) (h hs : List Nat), vs = [.ref a, .ref c] ∧ SqT K H a (vn h) ∧ SqT K H c (vn hs) ∧ Hist h ∧ Hts h hs ∧ h.length ≤ 40 ∧ RetT (vn (higher h hs)) H Q
theorem higher_next {h hs : List Nat} {i : Nat} (hi : i < h.length) : (higher h hs).take (i + 1) = (higher h hs).take i ++ [higher1 h hs (i + 1)] := take_snoc (higher_at hi)
theorem ok_bases_by (B : Bl mg) (D : Dn K mg "bases_by" s_bases_by ["history", "heights"]) (C1 : Ok P w K mg base "is_heights" ["history", "thing"] 3 (spHts K)) : Ok P w K mg base "bases_by" ["history", "heights"] 4 (spBy K) := by
  obtain ⟨f, fd, F, g, b⟩ := D.ex
  obtain ⟨f_is_heights, fd_is_heights, g_is_heights, k_is_heights, b_is_heights, G_is_heights⟩ := C1.ex
  have sc := sc_bases_by
  refine ⟨f, fd, g, F.kp, b, F.ok sc (fun vs H Q E h => ?_) (fun cdv A outer s H vs Q E hr h => ?_)⟩
  · obtain ⟨a, c, l, b, rfl, _⟩ := h
    rfl
  · obtain ⟨a, c, l, hs, rfl, hS, hT, hH, hB, hl, k⟩ := h
    have hhl := hB.1
    refine ⟨_, (pss_cons (ps_if (pt_not (pt_val (pe_call G_is_heights (hr.mono (by decide)) (by rfl) g_is_heights k_is_heights b_is_heights .nil pass0 (pa_cons (pv 0) (pa_cons (pv 1) pa_nil))))) (pss_one ps_never) pss_nil)
    (pss_cons (ps_set (i := 2) sc.nd rfl (Or.inl rfl) (pe_lst pa_nil))
    (pss_cons (ps_for PassesOwn.never rfl (RZ.pi_zipA (by rfl) B.n_zip (pa_cons (pv 1) (pa_cons (pv 0) pa_nil))) (pg_tup rfl (pgs_cons (pg_name (i := 3) sc.nd rfl (Or.inl rfl)) (pgs_cons (pg_name (i := 4) sc.nd rfl (Or.inl rfl)) pgs_nil)))
      (pss_cons (ps_set (i := 5) sc.nd rfl (Or.inl rfl) (pv 4))
    (pss_cons (ps_while PassesOwn.never (PW.pt (pw_and (pt_cmpR op_ne (pv 5) pe_int (nomark _)) (pw_and1 (pt_cmpR op_le (pe_ix ix_tup (pv 1) (pe_op op_sub (pv 5) pe_int) (fun _ _ => rfl)) (pv 3) (nomark _))))) (pss_one (ps_set (i := 5) sc.nd rfl (Or.inl rfl) (pe_ix ix_tup (pv 0) (pe_op op_sub (pv 5) pe_int) (fun _ _ => rfl)))))
    (pss_one (ps_expr (pe_bm PySem.F.plainAttrs_list PySem.F.slot_list_append PySem.F.type_list_append mt_append (pv 2) (pa_cons (pv 5) pa_nil)))))))
    (pss_one (ps_ret (pe_callTy call_tuple_of (by rfl) B.n_tuple (by decide +kernel) (pa_cons (pv 2) pa_nil))))))), ?_⟩
    refine ⟨.ref a, rfl, .ref c, rfl, a, c, l, hs, rfl, hS, hT, hB, hl, fun H1 s1 => ⟨true, rfl, iteF ?_⟩⟩
    refine ⟨Nat.zero_le _, fun p np => ?_⟩
    have n0 := s1.free np
    have s2 := s1.trans (Same.new (o := .lst []) np)
    refine ⟨.ref c, rfl, .ref a, rfl, c, a, vn hs, vn l, rfl, .inr ⟨s2.t hT, s2.t hS, RZ.for_zipT (K := K) (by rw [vn_len, vn_len, hhl]) (fun i σ H' => ∃ y3 y4 y5, σ = [some (.ref a), some (.ref c), some (.ref p), y3, y4, y5] ∧ Same H H' ∧ H' p = some (.lst (vn ((higher l hs).take i))))
      ⟨none, none, none, rfl, s2, upd_same⟩ (fun i σ H' ⟨_, _, _, _, sm, _⟩ => ⟨sm.t hT, sm.t hS⟩) (fun i x y T σ H' hx hy q nT => ?_) (fun σ H' q => ?_)⟩⟩
    · obtain ⟨y3, y4, y5, rfl, sm, hp⟩ := q
      obtain ⟨ht, hht, rfl⟩ := vn_of hx
      obtain ⟨pr, hpr, rfl⟩ := vn_of hy
      have hi := (List.getElem?_eq_some_iff.mp hpr).1
      have e1 : par hs (i + 1) = ht := par_at hht
      have e2 : par l (i + 1) = pr := par_at hpr
      have pT : p ≠ T := ne_of_none hp nT
      have sm2 := sm.trans (Same.new (o := .tup [.int (ht : Int), .int (pr : Int)]) nT)
      have hp2 : (upd H' T (.tup [.int (ht : Int), .int (pr : Int)])) p = some (.lst (vn ((higher l hs).take i))) := by rw [upd_ne pT]; exact hp
      refine ⟨T, _, rfl, SqT.of upd_same, rfl, _, _, rfl, _, _, rfl, rfl, ?_⟩
      generalize upd H' T (.tup [.int (ht : Int), .int (pr : Int)]) = H2 at sm2 hp2
      refine ⟨.int (pr : Int), rfl, ?_⟩
      have prm : pr ∈ up l (i + 1) := by rw [up_step hH (by omega), e2]; exact List.mem_cons_self
      refine ⟨fun m σ H3 => ∃ e, m = e ∧ σ = [some (.ref a), some (.ref c), some (.ref p), some (.int (ht : Int)), some (.int (pr : Int)), some (.int (e : Int))] ∧ e ∈ up l (i + 1) ∧ (∀ x ∈ up l (i + 1), e < x → par hs x ≤ ht) ∧ H3 = H2,
        ⟨pr, pr, rfl, rfl, prm, fun x hx hlt => ?_, rfl⟩, fun m σ H3 hW => ?_⟩
      · have := up_le_par hH (v := i + 1) (by omega) hx
        omega
      · obtain ⟨_, rfl, rfl, em, near, rfl⟩ := hW
        have el := up_lt hH _ _ em
        have fin : (m = 0 ∨ ht < par hs m) → ∃ v, [some (V.ref a), some (V.ref c), some (V.ref p), some (V.int (ht : Int)), some (V.int (pr : Int)), some (V.int (m : Int))][5]? = some (some v) ∧ v = .int (higher1 l hs (i + 1) : Int) := fun hi2 => by
          have I : IsBase l hs (i + 1) m := ⟨em, by rw [e1]; exact hi2, by rw [e1]; exact near⟩
          refine ⟨_, rfl, ?_⟩
          rw [I.one (higher1_is hH hs (by omega))]
        have app : (m = 0 ∨ ht < par hs m) → ∃ y3 y4 y5, [some (V.ref a), some (V.ref c), some (V.ref p), some (V.int (ht : Int)), some (V.int (pr : Int)), some (V.int (m : Int))] = [some (V.ref a), some (V.ref c), some (V.ref p), y3, y4, y5] ∧
            Same H (upd H3 p (.lst (vn ((higher l hs).take i) ++ [.int (m : Int)]))) ∧ (upd H3 p (.lst (vn ((higher l hs).take i) ++ [.int (m : Int)]))) p = some (.lst (vn ((higher l hs).take (i + 1)))) := fun hi2 => by
          obtain ⟨v, hv, ev⟩ := fin hi2
          have ev2 : V.int (m : Int) = .int (higher1 l hs (i + 1) : Int) := by
            have : V.int (m : Int) = v := Option.some.inj (Option.some.inj hv)
            rw [this, ev]
          refine ⟨_, _, _, rfl, Same.mut sm2 n0, ?_⟩
          rw [upd_same, ev2, vn_snoc, higher_next (by omega)]
        have room : (vn ((higher l hs).take i)).length < sizeLine := by
          rw [vn_len, List.length_take, higher_len]
          exact sizeLt (by omega)
        refine ⟨.int (m : Int), rfl, rfl, _, rfl, ?_⟩
        have ec : (!decide (V.int (m : Int) = V.int 0)) = !decide (m = 0) := congrArg (! ·) (int_eq m 0)
        rw [ec]
        by_cases c0 : m = 0
        · rw [decide_eq_true c0]
          refine iteF (iteF ?_)
          refine ⟨.ref p, rfl, .inl ⟨rfl, _, SqL.of hp2⟩, .int (m : Int), rfl, p, _, _, rfl, rfl, hp2, room, app (.inl c0)⟩
        · rw [decide_eq_false c0]
          refine iteT ⟨.ref c, rfl, .int (m : Int), rfl, _, _, rfl, rfl, c, _, _, .int (par hs m : Int), rfl, rfl, sm2.t hT, par_ix (by omega) (by omega), .int (ht : Int), rfl, _, _, rfl, rfl, _, rfl, ite2 (fun c1 => ?_) (fun c1 => ?_)⟩
          · have d1 : par hs m ≤ ht := by have := of_decide_eq_true c1; omega
            have hlt := par_lt hH (v := m) (by omega)
            refine ⟨fun σ' H' => ∃ e, e < m ∧ σ' = [some (.ref a), some (.ref c), some (.ref p), some (.int (ht : Int)), some (.int (pr : Int)), some (.int (e : Int))] ∧ e ∈ up l (i + 1) ∧ (∀ x ∈ up l (i + 1), e < x → par hs x ≤ ht) ∧ H' = H3, fun σ' H' ⟨e, h1, h2, h3, h4, h5⟩ => ⟨e, h1, e, rfl, h2, h3, h4, h5⟩, ?_⟩
            refine ⟨.ref a, rfl, .int (m : Int), rfl, _, _, rfl, rfl, a, _, _, .int (par l m : Int), rfl, rfl, sm2.t hS, par_ix (by omega) (by omega), par l m, hlt, rfl, ?_, fun x hx hlt2 => ?_, rfl⟩
            · exact up_trans hH _ _ _ em (by rw [up_step hH (by omega)]; exact List.mem_cons_self)
            · rcases Nat.lt_trichotomy m x with z | z | z
              · exact near x hx z
              · rw [← z]; exact d1
              · have := up_le_par hH (v := m) (by omega) (up_comp hH _ _ _ em hx z)
                omega
          · have d1 : ht < par hs m := by
              rcases Nat.lt_or_ge ht (par hs m) with z | z
              · exact z
              · exact absurd (decide_eq_true (show (par hs m : Int) ≤ (ht : Int) by omega)) c1
            refine ⟨.ref p, rfl, .inl ⟨rfl, _, SqL.of hp2⟩, .int (m : Int), rfl, p, _, _, rfl, rfl, hp2, room, app (.inr d1)⟩
    · obtain ⟨y3, y4, y5, rfl, sm, hp⟩ := q
      rw [vn_len, List.take_of_length_le (by rw [higher_len]; omega)] at hp
      refine ⟨.ref p, rfl, p, _, rfl, .inl ⟨SqL.of hp, fun q nq => ?_⟩⟩
      exact k q _ (sm.free nq) (sm.trans (Same.new nq)) upd_same
/-- heights_of(history, bases) -/
def spHof (K : PySem.W.Frag) : Sp := fun vs H Q _ => ∃ (a c : Addr) (h b : List Nat), vs = [.ref a, .ref c] ∧ SqT K H a (vn h) ∧ SqT K H c (vn b) ∧ Hist h ∧ Bas h b ∧ h.length ≤ 40 ∧ RetT (vn (htsOf b)) H Q
theorem most_of_ints {l : List Nat} {m : Int} (hm : m ∈ l.map fun (n : Nat) => (n : Int)) (hx : ∀ y ∈ l.map fun (n : Nat) => (n : Int), y ≤ m) : m = (most l : Int) := by
  obtain ⟨n, hn, e⟩ := List.mem_map.mp hm
  subst e
  rw [most_uniq hn fun x hxl => ?_]
  have := hx (x : Int) (List.mem_map.mpr ⟨x, hxl, rfl⟩)
  omega
theorem reads_most {b : List Nat} {x : Nat} (h : x ∈ reads b) : x ≤ most (reads b) := (most_ge (reads b) 0).2 x h
theorem ok_heights_of (B : Bl mg) (D : Dn K mg "heights_of" s_heights_of ["history", "bases"]) (C1 : Ok P w K mg base "is_bases" ["history", "thing"] 5 (spBases K)) (C2 : Ok P w K mg base "reads_by" ["history", "bases"] 7 (spReads K)) : Ok P w K mg base "heights_of" ["history", "bases"] 8 (spHof K) := by
  obtain ⟨f, fd, F, g, b⟩ := D.ex
  obtain ⟨f_is_bases, fd_is_bases, g_is_bases, k_is_bases, b_is_bases, G_is_bases⟩ := C1.ex
  obtain ⟨f_reads_by, fd_reads_by, g_reads_by, k_reads_by, b_reads_by, G_reads_by⟩ := C2.ex
  have sc := sc_heights_of
  refine ⟨f, fd, g, F.kp, b, F.ok sc (fun vs H Q E h => ?_) (fun cdv A outer s H vs Q E hr h => ?_)⟩
  · obtain ⟨a, c, l, b, rfl, _⟩ := h
    rfl
  · obtain ⟨a, c, l, b, rfl, hS, hT, hH, hB, hl, k⟩ := h
    have hbl := hB.1
    have rl := reads_length b
    refine ⟨_, (pss_cons (ps_if (pt_not (pt_val (pe_call G_is_bases (hr.mono (by decide)) (by rfl) g_is_bases k_is_bases b_is_bases .nil pass0 (pa_cons (pv 0) (pa_cons (pv 1) pa_nil))))) (pss_one ps_never) pss_nil)
    (pss_cons (ps_set (i := 2) sc.nd rfl (Or.inl rfl) (pe_call G_reads_by (hr.mono (by decide)) (by rfl) g_reads_by k_reads_by b_reads_by .nil pass0 (pa_cons (pv 0) (pa_cons (pv 1) pa_nil))))
    (pss_cons (ps_set (i := 3) sc.nd rfl (Or.inr rfl) (pe_callB (cr_maxT rfl hr.units) (by rfl) B.n_max (by decide +kernel) (pa_cons (pv 2) pa_nil)))
    (pss_one (ps_ret (pe_callTy call_tuple_of (by rfl) B.n_tuple (by decide +kernel) (pa_cons (pe_lc (own := [("many", 4)]) rfl sc.nd (pi_tup (pe_slice sl_tup (pv 2) (po_some pe_int) po_none)) (blkOk_by (N := N_heights_of) (sc := defScope s_heights_of) (by decide +kernel)) (fun _ _ _ _ _ => pg_name (i := 4) sc.nd rfl (Or.inl rfl)) (fun _ _ _ _ _ => pts_nil) (fun _ _ _ _ _ => (pe_op op_sub (pe_op op_add (pv 3) pe_int) (pv 4)))) pa_nil))))))), ?_⟩
    refine ⟨.ref a, rfl, .ref c, rfl, a, c, l, b, rfl, hS, hT, hH, hB, hl, fun H1 s1 => ⟨true, rfl, iteF ?_⟩⟩
    refine ⟨.ref a, rfl, .ref c, rfl, a, c, l, b, rfl, s1.t hS, s1.t hT, hH, hB, hl, fun p H2 n2 s2 e2 => ?_⟩
    have s3 := s1.trans s2
    refine ⟨.ref p, rfl, p, (reads b).map fun (n : Nat) => (n : Int), rfl, by rw [← vn_ints]; exact SqT.of e2, by rw [List.length_map]; omega, fun m hm1 hm2 => ?_⟩
    have em := most_of_ints hm1 hm2
    subst em
    refine ⟨.ref p, rfl, 1, rfl, p, vn (reads b), rfl, SqT.of e2, ?_, fun q nq => ?_⟩
    · rw [vn_len, show HT.sIx (reads b).length 0 (some 1) = min 1 (reads b).length from HT.sIx_nat _ 0 1]
      omega
    rw [cut1, vn_drop]
    have s4 := s3.trans (Same.new (o := .tup (vn ((reads b).drop 1))) nq)
    have e4 : (upd H2 q (.tup (vn ((reads b).drop 1)))) q = some (.tup (vn ((reads b).drop 1))) := upd_same
    generalize upd H2 q (.tup (vn ((reads b).drop 1))) = H3 at s4 e4
    refine ⟨q, rfl, ⟨_, SqT.of e4⟩, fun Dl nD => ?_⟩
    refine lc_it (walk_tup (K := K) (a := q) (xs := vn ((reads b).drop 1))) (fun i H' => Same H3 H' ∧ H' Dl = some (.lst (vn ((htsOf b).take i)))) ⟨Same.new nD, upd_same⟩
      (fun i H' _ r => r.1.t (SqT.of e4)) (fun i x H' H'' hi r y => ?_) (fun H' r => ?_)
    · obtain ⟨rfl, hx⟩ := y
      obtain ⟨y, hy, rfl⟩ := vn_of hx
      have ym := reads_most (List.mem_of_mem_drop (List.mem_of_getElem? hy))
      refine ⟨rfl, .int (most (reads b) : Int), rfl, _, _, rfl, rfl, .int (y : Int), rfl, _, _, rfl, rfl, _, r.2, sizeLt (by rw [vn_len, List.length_take, htsOf_len]; omega), Same.mut r.1 nD, ?_⟩
      have et : (htsOf b)[i]? = some (most (reads b) + 1 - y) := by
        unfold htsOf
        rw [List.getElem?_map, hy]; rfl
      have ei : (V.int (((most (reads b) : Nat) : Int) + 1 - (y : Int))) = V.int ((most (reads b) + 1 - y : Nat) : Int) := by
        congr 1; omega
      rw [upd_same, take_snoc et, ← vn_snoc]
      exact congrArg (fun z => some (HO.lst (vn (List.take i (htsOf b)) ++ [z]))) ei
    · obtain ⟨sm, hD⟩ := r
      rw [vn_len, List.length_drop, rl, List.take_of_length_le (by rw [htsOf_len]; omega)] at hD
      refine ⟨Dl, _, rfl, .inl ⟨SqL.of hD, fun t nt => ?_⟩⟩
      exact k t _ ((s4.trans sm).free nt) ((s4.trans sm).trans (Same.new nt)) upd_same
/-- records_of(history, heights, version) -/
def spRec (K : PySem.W.Frag) : Sp := fun vs H Q _ => ∃ (a c : Addr) (h hs : List Nat) (v : Nat), vs = [.ref a, .ref c, .int (v : Int)] ∧ SqT K H a (vn h) ∧ SqT K H c (vn hs) ∧ Hist h ∧ Hts h hs ∧ v ≤ h.length ∧ h.length ≤ 40 ∧ RetT (vn (chain (higher h hs) v)) H Q
theorem ok_records_of (B : Bl mg) (D : Dn K mg "records_of" s_records_of ["history", "heights", "version"]) (C1 : Ok P w K mg base "bases_by" ["history", "heights"] 4 (spBy K)) (C2 : Ok P w K mg base "is_number" ["thing"] 2 (spIsNum 0)) : Ok P w K mg base "records_of" ["history", "heights", "version"] 5 (spRec K) := by
  obtain ⟨f, fd, F, g, b⟩ := D.ex
  obtain ⟨f_bases_by, fd_bases_by, g_bases_by, k_bases_by, b_bases_by, G_bases_by⟩ := C1.ex
  obtain ⟨f_is_number, fd_is_number, g_is_number, k_is_number, b_is_number, G_is_number⟩ := C2.ex
  have sc := sc_records_of
  refine ⟨f, fd, g, F.kp, b, F.ok sc (fun vs H Q E h => ?_) (fun cdv A outer s H vs Q E hr h => ?_)⟩
  · obtain ⟨a, c, l, hs, v, rfl, _⟩ := h
    rfl
  · obtain ⟨a, c, l, hs, v, rfl, hS, hT, hH, hB, hv, hl, k⟩ := h
    have hPB := higher_bas hH hs
    have hPH := hPB.hist hH
    have hPl := higher_len l hs
    refine ⟨_, (pss_cons (ps_set (i := 3) sc.nd rfl (Or.inl rfl) (pe_call G_bases_by (hr.mono (by decide)) (by rfl) g_bases_by k_bases_by b_bases_by .nil pass0 (pa_cons (pv 0) (pa_cons (pv 1) pa_nil))))
    (pss_cons (ps_if (PW.pt (pw_or (pt_not (pt_val (pe_call G_is_number (hr.mono (by decide)) (by rfl) g_is_number k_is_number b_is_number .nil pass0 (pa_cons (pv 2) pa_nil)))) (pw_or1 (pt_cmpR op_gt (pv 2) (pe_callB call_len_seq (by rfl) B.n_len PySem.boot_len (pa_cons (pv 0) pa_nil)) (nomark _))))) (pss_one ps_never) pss_nil)
    (pss_cons (ps_set (i := 4) sc.nd rfl (Or.inl rfl) (pe_lst pa_nil))
    (pss_cons (ps_set (i := 5) sc.nd rfl (Or.inl rfl) (pv 2))
    (pss_cons (ps_while PassesOwn.never (pt_cmpR op_ne (pv 5) pe_int (nomark _)) (pss_cons (ps_expr (pe_bm PySem.F.plainAttrs_list PySem.F.slot_list_append PySem.F.type_list_append mt_append (pv 4) (pa_cons (pv 5) pa_nil)))
    (pss_one (ps_set (i := 5) sc.nd rfl (Or.inl rfl) (pe_ix ix_tup (pv 3) (pe_op op_sub (pv 5) pe_int) (fun _ _ => rfl))))))
    (pss_one (ps_ret (pe_callTy call_tuple_of (by rfl) B.n_tuple (by decide +kernel) (pa_cons (pv 4) pa_nil))))))))), ?_⟩
    refine ⟨.ref a, rfl, .ref c, rfl, a, c, l, hs, rfl, hS, hT, hH, hB, hl, fun r H1 n1 s1 e1 => ?_⟩
    refine ⟨.int (v : Int), rfl, (v : Int), rfl, by omega, true, rfl, iteF ?_⟩
    refine ⟨.int (v : Int), rfl, .ref a, rfl, a, _, rfl, .inr (s1.t hS), _, _, rfl, rfl, false, ?_, iteF ?_⟩
    · exact blF (show ¬ ((vn l).length : Int) < (v : Int) by rw [vn_len]; omega)
    refine ⟨Nat.zero_le _, fun p np => ?_⟩
    have n0 := s1.free np
    have s2 := s1.trans (Same.new (o := .lst []) np)
    have pr : r ≠ p := ne_of_none e1 np
    refine ⟨.int (v : Int), rfl, ?_⟩
    generalize hpl : higher l hs = pl at *
    refine ⟨fun m σ H2 => ∃ (u : Nat) (done : List Nat), m = u ∧ σ = [some (.ref a), some (.ref c), some (.int (v : Int)), some (.ref r), some (.ref p), some (.int (u : Int))] ∧ u ≤ pl.length ∧ done ++ chain pl u = chain pl v ∧ Same H H2 ∧ SqT K H2 r (vn pl) ∧ H2 p = some (.lst (vn done)),
      ⟨v, v, [], rfl, rfl, by omega, rfl, s2, SqT.of (by rw [upd_ne pr]; exact e1), upd_same⟩, fun m σ H2 hW => ?_⟩
    obtain ⟨_, done, rfl, rfl, hu, hd, sm, hr2, hp⟩ := hW
    refine ⟨_, rfl, rfl, _, rfl, ?_⟩
    have ec : (!decide (V.int (m : Int) = V.int 0)) = !decide (m = 0) := congrArg (! ·) (int_eq m 0)
    rw [ec]
    by_cases c0 : m = 0
    · rw [decide_eq_true c0]
      subst c0
      rw [chain_zero, List.append_nil] at hd
      subst hd
      refine iteF ⟨.ref p, rfl, p, _, rfl, .inl ⟨SqL.of hp, fun q nq => ?_⟩⟩
      exact k q _ (sm.free nq) (sm.trans (Same.new nq)) upd_same
    · rw [decide_eq_false c0]
      have c1 : 1 ≤ m := by omega
      have hlt := par_lt hPH c1
      refine iteT ⟨fun σ' H' => ∃ (u' : Nat) (done' : List Nat), u' < m ∧ σ' = [some (.ref a), some (.ref c), some (.int (v : Int)), some (.ref r), some (.ref p), some (.int (u' : Int))] ∧ u' ≤ pl.length ∧ done' ++ chain pl u' = chain pl v ∧ Same H H' ∧ SqT K H' r (vn pl) ∧ H' p = some (.lst (vn done')), fun σ' H' ⟨u', d', h1, h2, h3, h4, h5, h6, h7⟩ => ⟨u', h1, u', d', rfl, h2, h3, h4, h5, h6, h7⟩, ?_⟩
      have el : done.length ≤ 40 := by
        have := congrArg List.length hd
        rw [List.length_append] at this
        have := chain_short hPH v
        omega
      refine ⟨.ref p, rfl, .inl ⟨rfl, _, SqL.of hp⟩, .int (m : Int), rfl, p, _, _, rfl, rfl, hp, ?_, ?_⟩
      · rw [vn_len]; exact sizeLt (by omega)
      · have s5 : Same H (upd H2 p (.lst (vn done ++ [.int (m : Int)]))) := Same.mut sm n0
        have hr3 : SqT K (upd H2 p (.lst (vn done ++ [.int (m : Int)]))) r (vn pl) := by
          rcases hr2 with (h | ⟨o, h⟩) | h
          · exact .inl (.inl (by rw [upd_ne pr]; exact h))
          · exact .inl (.inr ⟨o, by rw [upd_ne pr]; exact h⟩)
          · exact .inr h
        refine ⟨.ref r, rfl, .int (m : Int), rfl, _, _, rfl, rfl, r, _, _, _, rfl, rfl, hr3, par_ix c1 hu, ?_⟩
        refine ⟨par pl m, done ++ [m], hlt, rfl, by omega, ?_, s5, hr3, ?_⟩
        · rw [List.append_assoc, List.singleton_append, ← chain_step hPH c1]
          exact hd
        · rw [upd_same, vn_snoc]
end
end K58

/-! K58E: the law's own reckonings. -/
namespace K58
open PySem PySem.Spec PyProof.Rows L2
abbrev s_law_elders : Stmt := topS 38
abbrev N_law_elders : List Str := ["_law_history_here", "_law_elders_here", "_law_parent"]
theorem sc_law_elders : FnScope N_law_elders ["_law_history_here"] (defScope s_law_elders) := ⟨rfl, rfl, rfl, by decide +kernel, rfl, by decide +kernel, by decide +kernel⟩
abbrev s_law_higher : Stmt := topS 39
abbrev N_law_higher : List Str := ["_law_heights_here", "_law_elders_here", "_law_bases", "_law_v", "_law_found", "_law_elder"]
theorem sc_law_higher : FnScope N_law_higher ["_law_heights_here", "_law_elders_here"] (defScope s_law_higher) := ⟨rfl, rfl, rfl, by decide +kernel, rfl, by decide +kernel, by decide +kernel⟩
abbrev s_law_crossing : Stmt := topS 40
abbrev N_law_crossing : List Str := ["_law_elders_here", "_law_bases", "_law_z", "_law_v", "_law_base"]
theorem sc_law_crossing : FnScope N_law_crossing ["_law_elders_here", "_law_bases"] (defScope s_law_crossing) := ⟨rfl, rfl, rfl, by decide +kernel, rfl, by decide +kernel, by decide +kernel⟩
abbrev s_law_reads : Stmt := topS 41
abbrev N_law_reads : List Str := ["_law_bases", "_law_reads_here", "_law_base"]
theorem sc_law_reads : FnScope N_law_reads ["_law_bases"] (defScope s_law_reads) := ⟨rfl, rfl, rfl, by decide +kernel, rfl, by decide +kernel, by decide +kernel⟩
abbrev s_law_heights : Stmt := topS 42
abbrev N_law_heights : List Str := ["_law_bases", "_law_reads_here", "_law_most", "_law_one"]
theorem sc_law_heights : FnScope N_law_heights ["_law_bases"] (defScope s_law_heights) := ⟨rfl, rfl, rfl, by decide +kernel, rfl, by decide +kernel, by decide +kernel⟩
abbrev s_law_writes : Stmt := topS 43
abbrev N_law_writes : List Str := ["_law_elders_here", "_law_bases", "_law_writes_here", "_law_z", "_law_e"]
theorem sc_law_writes : FnScope N_law_writes ["_law_elders_here", "_law_bases"] (defScope s_law_writes) := ⟨rfl, rfl, rfl, by decide +kernel, rfl, by decide +kernel, by decide +kernel⟩
abbrev s_law_same : Stmt := topS 44
abbrev N_law_same : List Str := ["_law_told", "_law_due", "_law_one"]
theorem sc_law_same : FnScope N_law_same ["_law_told", "_law_due"] (defScope s_law_same) := ⟨rfl, rfl, rfl, by decide +kernel, rfl, by decide +kernel, by decide +kernel⟩
abbrev s_law_all_at_most : Stmt := topS 45
abbrev N_law_all_at_most : List Str := ["_law_low", "_law_high", "_law_a", "_law_b"]
theorem sc_law_all_at_most : FnScope N_law_all_at_most ["_law_low", "_law_high"] (defScope s_law_all_at_most) := ⟨rfl, rfl, rfl, by decide +kernel, rfl, by decide +kernel, by decide +kernel⟩
/-! ### the lists of the elders -/
def rf (rs : List Addr) : List V := rs.map V.ref
theorem rf_len (rs : List Addr) : (rf rs).length = rs.length := List.length_map _
theorem rf_some {rs : List Addr} {i : Nat} {r : Addr} (h : rs[i]? = some r) : (rf rs)[i]? = some (.ref r) := by unfold rf; rw [List.getElem?_map, h]; rfl
theorem rf_snoc (rs : List Addr) (r : Addr) : rf rs ++ [.ref r] = rf (rs ++ [r]) := by unfold rf; rw [List.map_append]; rfl
theorem rf_of {rs : List Addr} {i : Nat} {v : V} (h : (rf rs)[i]? = some v) : ∃ r, rs[i]? = some r ∧ v = .ref r := by
  unfold rf at h
  rw [List.getElem?_map] at h
  cases e : rs[i]? with
  | none => rw [e] at h; cases h
  | some r => rw [e] at h; exact ⟨r, rfl, (Option.some.inj h).symm⟩
/-- at a: the lists of the elders of the versions 0 to n -/
structure IsE (H : Hp) (a : Addr) (h : List Nat) (rs : List Addr) : Prop where
  lst : H a = some (.lst (rf rs))
  len : rs.length = h.length + 1
  at_ : ∀ v r, rs[v]? = some r → H r = some (.lst (vn (up h v)))
theorem IsE.same {H H' : Hp} {a : Addr} {h : List Nat} {rs : List Addr} (E : IsE H a h rs) (s : Same H H') : IsE H' a h rs := ⟨s _ _ E.lst, E.len, fun v r e => s _ _ (E.at_ v r e)⟩
theorem IsE.get {H : Hp} {a : Addr} {h : List Nat} {rs : List Addr} (E : IsE H a h rs) {v : Nat} (hv : v ≤ h.length) : ∃ r, rs[v]? = some r ∧ atI (rf rs) (v : Int) = some (.ref r) ∧ H r = some (.lst (vn (up h v))) := by
  have hl : v < rs.length := by have := E.len; omega
  exact ⟨rs[v], List.getElem?_eq_getElem hl, atI_nat (rf_some (List.getElem?_eq_getElem hl)), E.at_ v _ (List.getElem?_eq_getElem hl)⟩
section
variable {P : Program} {w : World} {K : PySem.W.Frag} {mg : Str → Option Value} {base : Heap}
def spElders (K : PySem.W.Frag) : Sp := fun vs H Q _ => ∃ (a : Addr) (h : List Nat), vs = [.ref a] ∧ SqT K H a (vn h) ∧ Hist h ∧ h.length ≤ 40 ∧ ∀ p H' rs, H p = none → Same H H' → IsE H' p h rs → Q (.ref p) H'
theorem ok_law_elders (B : Bl mg) (D : Dn K mg "_law_elders" s_law_elders ["_law_history_here"]) : Ok P w K mg base "_law_elders" ["_law_history_here"] 1 (spElders K) := by
  obtain ⟨f, fd, F, g, b⟩ := D.ex
  have sc := sc_law_elders
  refine ⟨f, fd, g, F.kp, b, F.ok sc (fun vs H Q E h => ?_) (fun cdv A outer s H vs Q E hr h => ?_)⟩
  · obtain ⟨a, l, rfl, _⟩ := h
    rfl
  · obtain ⟨a, l, rfl, hS, hH, hl, k⟩ := h
    refine ⟨_, (pss_cons (ps_set (i := 1) sc.nd rfl (Or.inl rfl) (pe_lst (pa_cons (pe_lst pa_nil) pa_nil)))
    (pss_cons (ps_for PassesOwn.never rfl (pi_tup (pv 0)) (pg_name (i := 2) sc.nd rfl (Or.inl rfl))
      (pss_one (ps_expr (pe_bm PySem.F.plainAttrs_list PySem.F.slot_list_append PySem.F.type_list_append mt_append (pv 1) (pa_cons (pe_op op_cat (pe_lst (pa_cons (pv 2) pa_nil)) (pe_ix ix_list (pv 1) (pv 2) (fun _ _ => rfl))) pa_nil)))))
    (pss_one (ps_ret (pv 1))))), ?_⟩
    refine ⟨sizeOk (by show 0 ≤ 100000; decide), fun p0 np0 => ⟨sizeOk (by show 1 ≤ 100000; decide), fun p np => ?_⟩⟩
    have s0 := Same.new (o := .lst []) np0
    have s1 := s0.trans (Same.new (o := .lst [.ref p0]) np)
    have n0 := s0.free np
    have np00 : p0 ≠ p := fun e => by rw [← e, upd_same] at np; cases np
    refine ⟨.ref a, rfl, a, rfl, ⟨_, s1.t hS⟩, for_tup (K := K) (a := a) (xs := vn l) (fun i σ H' => ∃ y2 rs, σ = [some (.ref a), some (.ref p), y2] ∧ Same H H' ∧ H' p = some (.lst (rf rs)) ∧ rs.length = i + 1 ∧ p ∉ rs ∧ ∀ v r, rs[v]? = some r → H' r = some (.lst (vn (up l v))))
      ⟨none, [p0], rfl, s1, upd_same, rfl, by simpa using Ne.symm np00, fun v r e => ?_⟩ (fun i σ H' _ ⟨_, _, _, sm, _⟩ => sm.t hS) (fun i x σ H' hx q => ?_) (fun σ H' q => ?_)⟩
    · cases v with
      | zero =>
        rw [← Option.some.inj e, upd_ne np00, upd_same]; rfl
      | succ v => cases e
    · obtain ⟨y2, rs, rfl, sm, hp, rl, prs, hat⟩ := q
      obtain ⟨y, hy, rfl⟩ := vn_of hx
      have hi := (List.getElem?_eq_some_iff.mp hy).1
      have yi := hH i y hy
      have ey : par l (i + 1) = y := par_at hy
      have hyr : rs[y]? = some rs[y] := List.getElem?_eq_getElem (by omega)
      refine ⟨.ref p, rfl, .inl ⟨rfl, _, SqL.of hp⟩, .int (y : Int), rfl, sizeOk (by show 1 ≤ 100000; decide), fun p1 np1 => ?_⟩
      have s3 := sm.trans (Same.new (o := .lst [.int (y : Int)]) np1)
      have hp1 := Same.new (o := .lst [.int (y : Int)]) np1 _ _ hp
      have hr1 := Same.new (o := .lst [.int (y : Int)]) np1 _ _ (hat y _ hyr)
      have ul := up_len hH y
      refine ⟨.ref p, rfl, .int (y : Int), rfl, p, _, _, .ref rs[y], rfl, rfl, SqL.of hp1, atI_nat (rf_some hyr), p1, rs[y], _, _, rfl, rfl, upd_same, hr1, sizeOk (by rw [vn_len]; show 1 + _ ≤ _; omega), fun p2 np2 => ?_⟩
      have s4 := s3.trans (Same.new (o := .lst ([.int (y : Int)] ++ vn (up l y))) np2)
      have hp2 := Same.new (o := .lst ([.int (y : Int)] ++ vn (up l y))) np2 _ _ hp1
      have p2p : p2 ≠ p := (ne_of_none hp1 np2).symm
      refine ⟨p, _, _, rfl, rfl, hp2, sizeLt (by rw [rf_len]; omega), _, rs ++ [p2], rfl, Same.mut s4 n0, ?_, ?_, ?_, fun v r e => ?_⟩
      · rw [upd_same, rf_snoc]
      · rw [List.length_append, rl]; rfl
      · intro hm
        rcases List.mem_append.mp hm with z | z
        · exact prs z
        · exact p2p (List.mem_singleton.mp z).symm
      · by_cases c : v < rs.length
        · rw [List.getElem?_append_left c] at e
          have rp : r ≠ p := fun z => prs (by rw [← z]; exact List.mem_of_getElem? e)
          rw [upd_ne rp]
          exact Same.new np2 _ _ (Same.new np1 _ _ (hat v r e))
        · rw [List.getElem?_append_right (by omega)] at e
          have ev : v = i + 1 := by
            have := (List.getElem?_eq_some_iff.mp e).1
            rw [List.length_singleton] at this
            omega
          subst ev
          rw [show i + 1 - rs.length = 0 by omega] at e
          have er : p2 = r := Option.some.inj e
          rw [← er, upd_ne p2p, upd_same, up_step hH (v := i + 1) (by omega), ey]
          rfl
    · obtain ⟨y2, rs, rfl, sm, hp, rl, prs, hat⟩ := q
      rw [vn_len] at rl
      exact ⟨.ref p, rfl, k p H' rs n0 sm ⟨hp, rl, hat⟩⟩
/-- _law_higher(heights, elders) -/
def spHigher (K : PySem.W.Frag) : Sp := fun vs H Q _ => ∃ (c e : Addr) (h hs : List Nat) (rs : List Addr), vs = [.ref c, .ref e] ∧ SqT K H c (vn hs) ∧ IsE H e h rs ∧ Hist h ∧ hs.length = h.length ∧ h.length ≤ 40 ∧ RetT (vn (higher h hs)) H Q
theorem fold_next {α β : Type} {f : β → α → β} {a : β} {l : List α} {i : Nat} {x : α} (h : l[i]? = some x) : (l.take (i + 1)).foldl f a = f ((l.take i).foldl f a) x := by
  rw [take_snoc h, List.foldl_append]; rfl
theorem ok_law_higher (B : Bl mg) (D : Dn K mg "_law_higher" s_law_higher ["_law_heights_here", "_law_elders_here"]) : Ok P w K mg base "_law_higher" ["_law_heights_here", "_law_elders_here"] 1 (spHigher K) := by
  obtain ⟨f, fd, F, g, b⟩ := D.ex
  have sc := sc_law_higher
  refine ⟨f, fd, g, F.kp, b, F.ok sc (fun vs H Q E h => ?_) (fun cdv A outer s H vs Q E hr h => ?_)⟩
  · obtain ⟨a, c, l, hs, rs, rfl, _⟩ := h
    rfl
  · obtain ⟨c, e, l, hs, rs, rfl, hT, hE, hH, hhl, hl, k⟩ := h
    have hrl := hE.len
    refine ⟨_, (pss_cons (ps_set (i := 2) sc.nd rfl (Or.inl rfl) (pe_lst pa_nil))
    (pss_cons (ps_for PassesOwn.never rfl (pi_range2 (by rfl) B.n_range (pa_cons pe_int (pa_cons (pe_callB call_len_seq (by rfl) B.n_len PySem.boot_len (pa_cons (pv 1) pa_nil)) pa_nil))) (pg_name (i := 3) sc.nd rfl (Or.inl rfl))
      (pss_cons (ps_set (i := 4) sc.nd rfl (Or.inl rfl) pe_int)
    (pss_cons (ps_for PassesOwn.never rfl (pi_list (pe_revL (pe_ix ix_list (pv 1) (pv 3) (fun _ _ => rfl)))) (pg_name (i := 5) sc.nd rfl (Or.inl rfl))
      (pss_one (ps_if (PW.pt (pw_and (pt_cmpR op_gt (pv 5) pe_int (nomark _)) (pw_and1 (pt_cmpR op_gt (pe_ix ix_tup (pv 0) (pe_op op_sub (pv 5) pe_int) (fun _ _ => rfl)) (pe_ix ix_tup (pv 0) (pe_op op_sub (pv 3) pe_int) (fun _ _ => rfl)) (nomark _))))) (pss_one (ps_set (i := 4) sc.nd rfl (Or.inl rfl) (pv 5))) pss_nil)))
    (pss_one (ps_expr (pe_bm PySem.F.plainAttrs_list PySem.F.slot_list_append PySem.F.type_list_append mt_append (pv 2) (pa_cons (pv 4) pa_nil)))))))
    (pss_one (ps_ret (pe_callTy call_tuple_of (by rfl) B.n_tuple (by decide +kernel) (pa_cons (pv 2) pa_nil)))))), ?_⟩
    refine ⟨Nat.zero_le _, fun p np => ?_⟩
    have s1 := Same.new (o := .lst []) np
    refine ⟨.ref e, rfl, e, _, rfl, .inl (SqL.of (hE.same s1).lst), 1, _, rfl, ⟨by omega, by omega, by omega, by rw [rf_len]; omega⟩, ?_⟩
    have en : (((rf rs).length : Int) - 1).toNat = l.length := by rw [rf_len]; omega
    rw [en]
    refine for_range (lo := 1) (n := l.length) (fun i σ H' => ∃ y3 y4 y5, σ = [some (.ref c), some (.ref e), some (.ref p), y3, y4, y5] ∧ Same H H' ∧ H' p = some (.lst (vn ((higher l hs).take i))))
      ⟨none, none, none, rfl, s1, upd_same⟩ (fun i σ H' hi q => ?_) (fun σ H' q => ?_)
    · obtain ⟨y3, y4, y5, rfl, sm, hp⟩ := q
      have ez : (1 : Int) + (i : Int) = ((i + 1 : Nat) : Int) := by omega
      obtain ⟨r, hr1, hr2, hr3⟩ := (hE.same sm).get (v := i + 1) (by omega)
      refine ⟨.ref e, rfl, .int (1 + (i : Int)), rfl, e, _, _, .ref r, rfl, rfl, SqL.of (hE.same sm).lst, by rw [ez]; exact hr2, r, _, rfl, SqL.of hr3, fun q nq => ?_⟩
      have s3 := sm.trans (Same.new (o := .lst (vn (up l (i + 1))).reverse) nq)
      have hp3 := Same.new (o := .lst (vn (up l (i + 1))).reverse) nq _ _ hp
      have hq3 : (upd H' q (.lst (vn (up l (i + 1))).reverse)) q = some (.lst (vn (up l (i + 1)).reverse)) := by rw [upd_same, vn_rev]
      generalize upd H' q (.lst (vn (up l (i + 1))).reverse) = H3 at s3 hp3 hq3
      refine ⟨q, rfl, ⟨_, SqL.of hq3⟩, for_list (K := K) (a := q) (xs := vn (up l (i + 1)).reverse) (fun j σ H2 => ∃ y5, σ = [some (.ref c), some (.ref e), some (.ref p), some (.int ((i + 1 : Nat) : Int)), some (.int ((((up l (i + 1)).reverse.take j).foldl (fun acc e => if 0 < e ∧ par hs (i + 1) < par hs e then e else acc) 0 : Nat) : Int)), y5] ∧ H2 = H3)
        ⟨y5, by rw [ez]; rfl, rfl⟩ (fun j σ H2 _ ⟨_, _, z⟩ => by rw [z]; exact SqL.of hq3) (fun j x σ H2 hx r => ?_) (fun σ H2 r => ?_)⟩
      · obtain ⟨y5, rfl, rfl⟩ := r
        obtain ⟨y, hy, rfl⟩ := vn_of hx
        have ym := List.mem_reverse.mp (List.mem_of_getElem? hy)
        have yl := up_lt hH _ _ ym
        refine ⟨.int (y : Int), rfl, _, _, rfl, rfl, _, rfl, ite2 (fun c1 => ?_) (fun c1 => ?_)⟩
        · have d1 : 0 < y := by have := of_decide_eq_true c1; omega
          refine ⟨.ref c, rfl, .int (y : Int), rfl, _, _, rfl, rfl, c, _, _, .int (par hs y : Int), rfl, rfl, s3.t hT, par_ix (by omega) (by omega), .ref c, rfl, .int ((i + 1 : Nat) : Int), rfl, _, _, rfl, rfl, c, _, _, .int (par hs (i + 1) : Int), rfl, rfl, s3.t hT, par_ix (by omega) (by omega), _, _, rfl, rfl, _, rfl, ite2 (fun c2 => ?_) (fun c2 => ?_)⟩
          · have d2 : par hs (i + 1) < par hs y := by have := of_decide_eq_true c2; omega
            refine ⟨.int (y : Int), rfl, some (.int (y : Int)), ?_, rfl⟩
            rw [fold_next hy, if_pos ⟨d1, d2⟩]
            rfl
          · have d2 : ¬ par hs (i + 1) < par hs y := fun z => c2 (decide_eq_true (by omega))
            refine ⟨some (.int (y : Int)), ?_, rfl⟩
            rw [fold_next hy, if_neg (fun z => d2 z.2)]
            rfl
        · have d1 : ¬ 0 < y := fun z => c1 (decide_eq_true (by omega))
          refine ⟨some (.int (y : Int)), ?_, rfl⟩
          rw [fold_next hy, if_neg (fun z => d1 z.1)]
          rfl
      · obtain ⟨y5, rfl, rfl⟩ := r
        rw [vn_len, List.take_length]
        refine ⟨.ref p, rfl, .inl ⟨rfl, _, SqL.of hp3⟩, _, rfl, p, _, _, rfl, rfl, hp3, ?_, _, _, _, rfl, Same.mut s3 np, ?_⟩
        · rw [vn_len, List.length_take]; exact sizeLt (by omega)
        · rw [upd_same, higher_next hi, ← vn_snoc]
          rfl
    · obtain ⟨y3, y4, y5, rfl, sm, hp⟩ := q
      rw [List.take_of_length_le (by rw [higher_len]; omega)] at hp
      refine ⟨.ref p, rfl, p, _, rfl, .inl ⟨SqL.of hp, fun q nq => ?_⟩⟩
      exact k q _ (sm.free nq) (sm.trans (Same.new nq)) upd_same
/-- _law_crossing(elders, bases) -/
def spCrossL (K : PySem.W.Frag) : Sp := fun vs H Q _ => ∃ (e c : Addr) (h b : List Nat) (rs : List Addr), vs = [.ref e, .ref c] ∧ IsE H e h rs ∧ SqT K H c (vn b) ∧ Hist h ∧ Bas h b ∧ h.length ≤ 40 ∧
  (crossP h b = none → RetV .non H Q) ∧ ∀ v z, crossP h b = some (v, z) → RetT (vn [v, z]) H Q
theorem crossL_some {h b : List Nat} {i v : Nat} (hi : i < h.length) (hv : ((up h (i + 1)).reverse.drop 1).find? (hitL h b (i + 1)) = some v) (hb : ∀ j, j < i → ((up h (j + 1)).reverse.drop 1).find? (hitL h b (j + 1)) = none) : crossL h b = some (v, i + 1) := by
  unfold crossL
  refine findSome_at (i := i) (List.getElem?_range hi) (by rw [hv]; rfl) fun j z hj hz => ?_
  rw [List.getElem?_range (by omega)] at hz
  rw [← Option.some.inj hz, hb j hj]; rfl
theorem crossL_all {h b : List Nat} (hb : ∀ j, j < h.length → ((up h (j + 1)).reverse.drop 1).find? (hitL h b (j + 1)) = none) : crossL h b = none := by
  unfold crossL
  rw [List.findSome?_eq_none_iff]
  intro x hx
  rw [hb x (List.mem_range.mp hx)]; rfl
theorem ok_law_crossing (B : Bl mg) (D : Dn K mg "_law_crossing" s_law_crossing ["_law_elders_here", "_law_bases"]) : Ok P w K mg base "_law_crossing" ["_law_elders_here", "_law_bases"] 1 (spCrossL K) := by
  obtain ⟨f, fd, F, g, b⟩ := D.ex
  have sc := sc_law_crossing
  refine ⟨f, fd, g, F.kp, b, F.ok sc (fun vs H Q E h => ?_) (fun cdv A outer s H vs Q E hr h => ?_)⟩
  · obtain ⟨a, c, l, b, rs, rfl, _⟩ := h
    rfl
  · obtain ⟨e, c, l, b, rs, rfl, hE, hT, hH, hB, hl, kN, kS⟩ := h
    rw [cross_eq hH hB] at kN kS
    have hbl := hB.1
    have hrl := hE.len
    refine ⟨_, (pss_cons (ps_for PassesOwn.never rfl (pi_range2 (by rfl) B.n_range (pa_cons pe_int (pa_cons (pe_callB call_len_seq (by rfl) B.n_len PySem.boot_len (pa_cons (pv 0) pa_nil)) pa_nil))) (pg_name (i := 2) sc.nd rfl (Or.inl rfl))
      (pss_one (ps_for PassesOwn.never rfl (pi_list (pe_slice sl_list (pe_revL (pe_ix ix_list (pv 0) (pv 2) (fun _ _ => rfl))) (po_some pe_int) po_none)) (pg_name (i := 3) sc.nd rfl (Or.inl rfl))
      (pss_cons (ps_set (i := 4) sc.nd rfl (Or.inl rfl) (pe_ix ix_tup (pv 1) (pe_op op_sub (pv 2) pe_int) (fun _ _ => rfl)))
    (pss_one (ps_if (PW.pt (pw_and (pt_cmpR op_in_seq (pv 4) (pe_ix ix_list (pv 0) (pv 3) (fun _ _ => rfl)) (by rfl)) (pw_and (pt_cmpR op_ne (pv 4) (pe_ix ix_tup (pv 1) (pe_op op_sub (pv 3) pe_int) (fun _ _ => rfl)) (nomark _)) (pw_and1 (pt_cmpR op_notIn_seq (pv 4) (pe_ix ix_list (pv 0) (pe_ix ix_tup (pv 1) (pe_op op_sub (pv 3) pe_int) (fun _ _ => rfl)) (fun _ _ => rfl)) (by rfl)))))) (pss_one (ps_ret (pe_tup (pa_cons (pv 3) (pa_cons (pv 2) pa_nil))))) pss_nil))))))
    (pss_one (ps_ret pe_non))), ?_⟩
    refine ⟨.ref e, rfl, e, _, rfl, .inl (SqL.of hE.lst), 1, _, rfl, ⟨by omega, by omega, by omega, by rw [rf_len]; omega⟩, ?_⟩
    have en : (((rf rs).length : Int) - 1).toNat = l.length := by rw [rf_len]; omega
    rw [en]
    refine for_range (lo := 1) (n := l.length) (fun i σ H' => ∃ y2 y3 y4, σ = [some (.ref e), some (.ref c), y2, y3, y4] ∧ Same H H' ∧ ∀ j, j < i → ((up l (j + 1)).reverse.drop 1).find? (hitL l b (j + 1)) = none)
      ⟨none, none, none, rfl, Same.refl H, fun j hj => absurd hj (Nat.not_lt_zero _)⟩ (fun i σ H' hi q => ?_) (fun σ H' q => ?_)
    · obtain ⟨y2, y3, y4, rfl, sm, pb⟩ := q
      have ez : (1 : Int) + (i : Int) = ((i + 1 : Nat) : Int) := by omega
      obtain ⟨r, hr1, hr2, hr3⟩ := (hE.same sm).get (v := i + 1) (by omega)
      refine ⟨.ref e, rfl, .int (1 + (i : Int)), rfl, e, _, _, .ref r, rfl, rfl, SqL.of (hE.same sm).lst, by rw [ez]; exact hr2, r, _, rfl, SqL.of hr3, fun q nq => ?_⟩
      have s3 := sm.trans (Same.new (o := .lst (vn (up l (i + 1))).reverse) nq)
      refine ⟨1, rfl, q, _, rfl, SqL.of upd_same, fun q2 nq2 => ?_⟩
      rw [cut1, vn_rev, vn_drop]
      rw [vn_rev] at s3 nq2
      have s4 := s3.trans (Same.new (o := .lst (vn ((up l (i + 1)).reverse.drop 1))) nq2)
      have hq4 : (upd (upd H' q (.lst (vn (up l (i + 1)).reverse))) q2 (.lst (vn ((up l (i + 1)).reverse.drop 1)))) q2 = some (.lst (vn ((up l (i + 1)).reverse.drop 1))) := upd_same
      generalize upd (upd H' q (.lst (vn (up l (i + 1)).reverse))) q2 (.lst (vn ((up l (i + 1)).reverse.drop 1))) = H3 at s4 hq4
      refine ⟨q2, rfl, ⟨_, SqL.of hq4⟩, for_list (K := K) (a := q2) (xs := vn ((up l (i + 1)).reverse.drop 1)) (fun j σ H2 => ∃ y3 y4, σ = [some (.ref e), some (.ref c), some (.int ((i + 1 : Nat) : Int)), y3, y4] ∧ H2 = H3 ∧ ∀ m y, m < j → ((up l (i + 1)).reverse.drop 1)[m]? = some y → hitL l b (i + 1) y = false)
        ⟨y3, y4, by rw [ez]; rfl, rfl, fun m y hm => absurd hm (Nat.not_lt_zero _)⟩ (fun j σ H2 _ ⟨_, _, _, z, _⟩ => by rw [z]; exact SqL.of hq4) (fun j x σ H2 hx r => ?_) (fun σ H2 r => ?_)⟩
      · obtain ⟨y3, y4, rfl, rfl, pk⟩ := r
        obtain ⟨y, hy, rfl⟩ := vn_of hx
        have ym0 := List.mem_of_getElem? hy
        rw [drop1_up hH (by omega)] at ym0
        have ym1 := List.mem_filter.mp ym0
        have ym := List.mem_reverse.mp ym1.1
        have y1 : 1 ≤ y := by have := ym1.2; simp at this; omega
        have yl := up_lt hH _ _ ym
        have bm := hB.mem y1 (by omega)
        have bl := up_lt hH _ _ bm
        have go : hitL l b (i + 1) y = false → ∃ y3 y4, [some (V.ref e), some (V.ref c), some (V.int ((i + 1 : Nat) : Int)), some (V.int (y : Int)), some (V.int (par b (i + 1) : Int))] = [some (V.ref e), some (V.ref c), some (V.int ((i + 1 : Nat) : Int)), y3, y4] ∧ H2 = H2 ∧ ∀ m z, m < j + 1 → ((up l (i + 1)).reverse.drop 1)[m]? = some z → hitL l b (i + 1) z = false := fun hf =>
          ⟨_, _, rfl, rfl, fun m z hm hz => by
            by_cases em : m = j
            · rw [em, hy] at hz
              rw [← Option.some.inj hz]; exact hf
            · exact pk m z (by omega) hz⟩
        obtain ⟨ry, hy1, hy2, hy3⟩ := (hE.same s4).get (v := y) (by omega)
        obtain ⟨rb, hb1, hb2, hb3⟩ := (hE.same s4).get (v := par b y) (by omega)
        refine ⟨.ref c, rfl, .int ((i + 1 : Nat) : Int), rfl, _, _, rfl, rfl, c, _, _, .int (par b (i + 1) : Int), rfl, rfl, s4.t hT, par_ix (by omega) (by omega), ?_⟩
        refine ⟨.int (par b (i + 1) : Int), rfl, .ref e, rfl, .int (y : Int), rfl, e, _, _, .ref ry, rfl, rfl, SqL.of (hE.same s4).lst, hy2, ry, _, rfl, .inl (SqL.of hy3), rfl, vn_flat _, _, rfl, ?_⟩
        have e1 : (if false = true then !inV (.int (par b (i + 1) : Int)) (vn (up l y)) else inV (.int (par b (i + 1) : Int)) (vn (up l y))) = (up l y).contains (par b (i + 1)) := vn_in _ _
        rw [e1]
        unfold hitL at go
        cases c1 : (up l y).contains (par b (i + 1)) with
        | false => exact iteF (go (by rw [c1]; rfl))
        | true =>
          refine iteT ⟨.int (par b (i + 1) : Int), rfl, .ref c, rfl, .int (y : Int), rfl, _, _, rfl, rfl, c, _, _, .int (par b y : Int), rfl, rfl, s4.t hT, par_ix (by omega) (by omega), rfl, _, rfl, ?_⟩
          have e2 : (!decide (V.int (par b (i + 1) : Int) = V.int (par b y : Int))) = !decide (par b (i + 1) = par b y) := congrArg (! ·) (int_eq _ _)
          rw [e2]
          by_cases c2 : par b (i + 1) = par b y
          · rw [decide_eq_true c2]
            exact iteF (go (by rw [c1, decide_eq_true c2]; rfl))
          · rw [decide_eq_false c2]
            refine iteT ⟨.int (par b (i + 1) : Int), rfl, .ref e, rfl, .ref c, rfl, .int (y : Int), rfl, _, _, rfl, rfl, c, _, _, .int (par b y : Int), rfl, rfl, s4.t hT, par_ix (by omega) (by omega), e, _, _, .ref rb, rfl, rfl, SqL.of (hE.same s4).lst, hb2, rb, _, rfl, .inl (SqL.of hb3), rfl, vn_flat _, _, rfl, ?_⟩
            have e3 : (if true = true then !inV (.int (par b (i + 1) : Int)) (vn (up l (par b y))) else inV (.int (par b (i + 1) : Int)) (vn (up l (par b y)))) = !(up l (par b y)).contains (par b (i + 1)) := congrArg (! ·) (vn_in _ _)
            rw [e3]
            cases c3 : (up l (par b y)).contains (par b (i + 1)) with
            | true => exact iteF (go (by rw [c1, decide_eq_false c2, c3]; rfl))
            | false =>
              refine iteT ⟨.int (y : Int), rfl, .int ((i + 1 : Nat) : Int), rfl, sizeOk (by show 2 ≤ 100000; decide), fun t nt => ?_⟩
              have hit : hitL l b (i + 1) y = true := by
                unfold hitL
                rw [c1, decide_eq_false c2, c3]; rfl
              exact kS _ _ (crossL_some hi (find_some_at hy hit fun m z hm hz => pk m z hm hz) pb) t _ (s4.free nt) (s4.trans (Same.new nt)) upd_same
      · obtain ⟨y3, y4, rfl, rfl, pk⟩ := r
        rw [vn_len] at pk
        refine ⟨_, _, _, rfl, s4, fun j hj => ?_⟩
        by_cases ej : j = i
        · rw [ej]
          exact find_none_all pk
        · exact pb j (by omega)
    · obtain ⟨y2, y3, y4, rfl, sm, pb⟩ := q
      exact kN (crossL_all pb) _ sm
def spReadsL (K : PySem.W.Frag) : Sp := fun vs H Q _ => ∃ (c : Addr) (b : List Nat), vs = [.ref c] ∧ SqT K H c (vn b) ∧ Hist b ∧ b.length ≤ 40 ∧ RetL (vn (reads b)) H Q
theorem ok_law_reads (B : Bl mg) (D : Dn K mg "_law_reads" s_law_reads ["_law_bases"]) : Ok P w K mg base "_law_reads" ["_law_bases"] 1 (spReadsL K) := by
  obtain ⟨f, fd, F, g, b⟩ := D.ex
  have sc := sc_law_reads
  refine ⟨f, fd, g, F.kp, b, F.ok sc (fun vs H Q E h => ?_) (fun cdv A outer s H vs Q E hr h => ?_)⟩
  · obtain ⟨c, b, rfl, _⟩ := h
    rfl
  · obtain ⟨c, b, rfl, hT, hB, hl, k⟩ := h
    refine ⟨_, (pss_cons (ps_set (i := 1) sc.nd rfl (Or.inl rfl) (pe_lst (pa_cons pe_int pa_nil)))
    (pss_cons (ps_for PassesOwn.never rfl (pi_tup (pv 0)) (pg_name (i := 2) sc.nd rfl (Or.inl rfl))
      (pss_one (ps_expr (pe_bm PySem.F.plainAttrs_list PySem.F.slot_list_append PySem.F.type_list_append mt_append (pv 1) (pa_cons (pe_op op_add pe_int (pe_ix ix_list (pv 1) (pv 2) (fun _ _ => rfl))) pa_nil)))))
    (pss_one (ps_ret (pv 1))))), ?_⟩
    refine ⟨sizeOk (by show 1 ≤ 100000; decide), fun p np => ?_⟩
    refine ⟨.ref c, rfl, c, rfl, ⟨_, (Same.new np).t hT⟩, for_tup (K := K) (a := c) (xs := vn b) (fun i σ H' => ∃ y3, σ = [some (.ref c), some (.ref p), y3] ∧ Same H H' ∧ H' p = some (.lst (vn (reads (b.take i)))))
      ⟨none, rfl, Same.new np, upd_same⟩ (fun i σ H' _ ⟨_, _, sm, _⟩ => sm.t hT) (fun i x σ H' hx q => ?_) (fun σ H' q => ?_)⟩
    · obtain ⟨y3, rfl, sm, hp⟩ := q
      obtain ⟨y, hy, rfl⟩ := vn_of hx
      have hi := (List.getElem?_eq_some_iff.mp hy).1
      have hlen : (reads (b.take i)).length ≤ 41 := by rw [reads_length, List.length_take]; omega
      refine ⟨.ref p, rfl, .inl ⟨rfl, _, SqL.of hp⟩, .ref p, rfl, .int (y : Int), rfl, p, _, _, .int (((reads (b.take i)).getD y 0 : Nat) : Int), rfl, rfl, SqL.of hp, nat_ix (reads_at hB hy), _, _, rfl, rfl, p, _, _, rfl, rfl, hp, ?_, ?_⟩
      · rw [vn_len]; exact sizeLt (by omega)
      · refine ⟨_, rfl, Same.mut sm np, ?_⟩
        rw [upd_same, reads_next hy, ← vn_snoc]
        exact congrArg (fun z => some (HO.lst (vn (reads (b.take i)) ++ [V.int z]))) (by omega)
    · obtain ⟨y3, rfl, sm, hp⟩ := q
      rw [vn_len, List.take_length] at hp
      exact ⟨.ref p, rfl, k p H' np sm hp⟩
def spHtsL (K : PySem.W.Frag) : Sp := fun vs H Q _ => ∃ (c : Addr) (b : List Nat), vs = [.ref c] ∧ SqT K H c (vn b) ∧ Hist b ∧ b.length ≤ 40 ∧ RetT (vn (htsOf b)) H Q
theorem ok_law_heights (B : Bl mg) (D : Dn K mg "_law_heights" s_law_heights ["_law_bases"]) (C1 : Ok P w K mg base "_law_reads" ["_law_bases"] 1 (spReadsL K)) : Ok P w K mg base "_law_heights" ["_law_bases"] 2 (spHtsL K) := by
  obtain ⟨f, fd, F, g, b⟩ := D.ex
  obtain ⟨f_law_reads, fd_law_reads, g_law_reads, k_law_reads, b_law_reads, G_law_reads⟩ := C1.ex
  have sc := sc_law_heights
  refine ⟨f, fd, g, F.kp, b, F.ok sc (fun vs H Q E h => ?_) (fun cdv A outer s H vs Q E hr h => ?_)⟩
  · obtain ⟨c, b, rfl, _⟩ := h
    rfl
  · obtain ⟨c, b, rfl, hT, hB, hl, k⟩ := h
    have rl := reads_length b
    refine ⟨_, (pss_cons (ps_set (i := 1) sc.nd rfl (Or.inl rfl) (pe_call G_law_reads (hr.mono (by decide)) (by rfl) g_law_reads k_law_reads b_law_reads .nil pass0 (pa_cons (pv 0) pa_nil)))
    (pss_cons (ps_set (i := 2) sc.nd rfl (Or.inr rfl) (pe_callB (cr_max rfl) (by rfl) B.n_max (by decide +kernel) (pa_cons (pv 1) pa_nil)))
    (pss_one (ps_ret (pe_callTy call_tuple_of (by rfl) B.n_tuple (by decide +kernel) (pa_cons (pe_lc (own := [("_law_one", 3)]) rfl sc.nd (pi_list (pe_slice sl_list (pv 1) (po_some pe_int) po_none)) (blkOk_by (N := N_law_heights) (sc := defScope s_law_heights) (by decide +kernel)) (fun _ _ _ _ _ => pg_name (i := 3) sc.nd rfl (Or.inl rfl)) (fun _ _ _ _ _ => pts_nil) (fun _ _ _ _ _ => (pe_op op_sub (pe_op op_add (pv 2) pe_int) (pv 3)))) pa_nil)))))), ?_⟩
    refine ⟨.ref c, rfl, c, b, rfl, hT, hB, hl, fun p H2 n2 s3 e2 => ?_⟩
    refine ⟨.ref p, rfl, p, (reads b).map fun (n : Nat) => (n : Int), rfl, by rw [← vn_ints]; exact SqL.of e2, by rw [List.length_map]; omega, fun m hm1 hm2 => ?_⟩
    have em := most_of_ints hm1 hm2
    subst em
    refine ⟨.ref p, rfl, 1, rfl, p, vn (reads b), rfl, SqL.of e2, fun q nq => ?_⟩
    rw [cut1, vn_drop]
    have s4 := s3.trans (Same.new (o := .lst (vn ((reads b).drop 1))) nq)
    have e4 : (upd H2 q (.lst (vn ((reads b).drop 1)))) q = some (.lst (vn ((reads b).drop 1))) := upd_same
    generalize upd H2 q (.lst (vn ((reads b).drop 1))) = H3 at s4 e4
    refine ⟨q, rfl, ⟨_, SqL.of e4⟩, fun Dl nD => ?_⟩
    refine lc_it (walk_list (K := K) (a := q) (xs := vn ((reads b).drop 1))) (fun i H' => Same H3 H' ∧ H' Dl = some (.lst (vn ((htsOf b).take i)))) ⟨Same.new nD, upd_same⟩
      (fun i H' _ r => r.1.seq (SqL.of e4)) (fun i x H' H'' hi r y => ?_) (fun H' r => ?_)
    · obtain ⟨rfl, hx⟩ := y
      obtain ⟨y, hy, rfl⟩ := vn_of hx
      have ym := reads_most (List.mem_of_mem_drop (List.mem_of_getElem? hy))
      refine ⟨rfl, .int (most (reads b) : Int), rfl, _, _, rfl, rfl, .int (y : Int), rfl, _, _, rfl, rfl, _, r.2, sizeLt (by rw [vn_len, List.length_take, htsOf_len]; omega), Same.mut r.1 nD, ?_⟩
      have et : (htsOf b)[i]? = some (most (reads b) + 1 - y) := by
        unfold htsOf
        rw [List.getElem?_map, hy]; rfl
      have ei : (V.int (((most (reads b) : Nat) : Int) + 1 - (y : Int))) = V.int ((most (reads b) + 1 - y : Nat) : Int) := by
        congr 1; omega
      rw [upd_same, take_snoc et, ← vn_snoc]
      exact congrArg (fun z => some (HO.lst (vn (List.take i (htsOf b)) ++ [z]))) ei
    · obtain ⟨sm, hD⟩ := r
      rw [vn_len, List.length_drop, rl, List.take_of_length_le (by rw [htsOf_len]; omega)] at hD
      refine ⟨Dl, _, rfl, .inl ⟨SqL.of hD, fun t nt => ?_⟩⟩
      exact k t _ ((s4.trans sm).free nt) ((s4.trans sm).trans (Same.new nt)) upd_same
/-- _law_writes(elders, bases) -/
def spWritesL (K : PySem.W.Frag) : Sp := fun vs H Q _ => ∃ (e c : Addr) (h b : List Nat) (rs : List Addr), vs = [.ref e, .ref c] ∧ IsE H e h rs ∧ SqT K H c (vn b) ∧ Hist h ∧ b.length = h.length ∧ h.length ≤ 40 ∧ RetL (vn (writesL h b)) H Q
theorem ok_law_writes (B : Bl mg) (D : Dn K mg "_law_writes" s_law_writes ["_law_elders_here", "_law_bases"]) : Ok P w K mg base "_law_writes" ["_law_elders_here", "_law_bases"] 1 (spWritesL K) := by
  obtain ⟨f, fd, F, g, b⟩ := D.ex
  have sc := sc_law_writes
  refine ⟨f, fd, g, F.kp, b, F.ok sc (fun vs H Q E h => ?_) (fun cdv A outer s H vs Q E hr h => ?_)⟩
  · obtain ⟨a, c, l, b, rs, rfl, _⟩ := h
    rfl
  · obtain ⟨e, c, l, b, rs, rfl, hE, hT, hH, hbl, hl, k⟩ := h
    have hrl := hE.len
    refine ⟨_, (pss_cons (ps_set (i := 2) sc.nd rfl (Or.inl rfl) (pe_op op_rep (pe_lst (pa_cons pe_int pa_nil)) (pe_callB call_len_seq (by rfl) B.n_len PySem.boot_len (pa_cons (pv 1) pa_nil))))
    (pss_cons (ps_for PassesOwn.never rfl (pi_range2 (by rfl) B.n_range (pa_cons pe_int (pa_cons (pe_callB call_len_seq (by rfl) B.n_len PySem.boot_len (pa_cons (pv 0) pa_nil)) pa_nil))) (pg_name (i := 3) sc.nd rfl (Or.inl rfl))
      (pss_one (ps_for PassesOwn.never rfl (pi_list (pe_op op_cat (pe_lst (pa_cons (pv 3) pa_nil)) (pe_ix ix_list (pv 0) (pv 3) (fun _ _ => rfl)))) (pg_name (i := 4) sc.nd rfl (Or.inl rfl))
      (pss_one (ps_if (pt_cmpR op_gt (pv 4) (pe_ix ix_tup (pv 1) (pe_op op_sub (pv 3) pe_int) (fun _ _ => rfl)) (nomark _)) (pss_one (ps_asg (pe_op op_add (pe_ix ix_list (pv 2) (pe_op op_sub (pv 4) pe_int) (fun _ _ => rfl)) pe_int) (pg_sub (pv 2) (pe_op op_sub (pv 4) pe_int) set_list))) pss_nil)))))
    (pss_one (ps_ret (pv 2))))), ?_⟩
    refine ⟨sizeOk (by show 1 ≤ 100000; decide), fun p1 n1 => ?_⟩
    have s2 := Same.new (o := .lst [.int 0]) n1
    refine ⟨.ref c, rfl, c, _, rfl, .inr (s2.t hT), p1, _, _, rfl, rfl, upd_same, by omega, by rw [vn_len]; omega, sizeOk ?_, fun p np => ?_⟩
    · show 1 * ((vn b).length : Int).toNat ≤ 100000
      rw [vn_len]
      omega
    have ek : (((vn b).length : Nat) : Int).toNat = l.length := by rw [vn_len]; omega
    have e0 : (List.replicate (((vn b).length : Nat) : Int).toNat [V.int 0]).flatten = vn (List.replicate l.length 0) := by
      rw [ek]; exact vn_rep _ 0
    rw [e0]
    have s3 := s2.trans (Same.new (o := .lst (vn (List.replicate l.length 0))) np)
    have n0 := s2.free np
    have e3 : (upd (upd H p1 (.lst [.int 0])) p (.lst (vn (List.replicate l.length 0)))) p = some (.lst (vn (List.replicate l.length 0))) := upd_same
    generalize upd (upd H p1 (.lst [.int 0])) p (.lst (vn (List.replicate l.length 0))) = H3 at s3 e3
    refine ⟨.ref e, rfl, e, _, rfl, .inl (SqL.of (hE.same s3).lst), 1, _, rfl, ⟨by omega, by omega, by omega, by rw [rf_len]; omega⟩, ?_⟩
    have en : (((rf rs).length : Int) - 1).toNat = l.length := by rw [rf_len]; omega
    rw [en]
    refine for_range (lo := 1) (n := l.length) (fun i σ H' => ∃ y3 y4, σ = [some (.ref e), some (.ref c), some (.ref p), y3, y4] ∧ Same H H' ∧ H' p = some (.lst (vn (bumps (List.replicate l.length 0) ((List.range i).flatMap fun i => (sheetL l b (i + 1)).map fun e => e - 1)))))
      ⟨none, none, rfl, s3, e3⟩ (fun i σ H' hi q => ?_) (fun σ H' q => ?_)
    · obtain ⟨y3, y4, rfl, sm, hp⟩ := q
      have ez : (1 : Int) + (i : Int) = ((i + 1 : Nat) : Int) := by omega
      obtain ⟨r, hr1, hr2, hr3⟩ := (hE.same sm).get (v := i + 1) (by omega)
      refine ⟨.int (1 + (i : Int)), rfl, sizeOk (by show 1 ≤ 100000; decide), fun p2 np2 => ?_⟩
      have s4 := sm.trans (Same.new (o := .lst [.int (1 + (i : Int))]) np2)
      have hp4 := Same.new (o := .lst [.int (1 + (i : Int))]) np2 _ _ hp
      have ul := up_len hH (i + 1)
      refine ⟨.ref e, rfl, .int (1 + (i : Int)), rfl, e, _, _, .ref r, rfl, rfl, SqL.of (hE.same s4).lst, by rw [ez]; exact hr2, p2, r, _, _, rfl, rfl, upd_same, Same.new np2 _ _ hr3, sizeOk (by rw [vn_len]; show 1 + _ ≤ _; omega), fun q nq => ?_⟩
      have el : [V.int (1 + (i : Int))] ++ vn (up l (i + 1)) = vn ((i + 1) :: up l (i + 1)) := by rw [ez]; rfl
      rw [el]
      have s5 := s4.trans (Same.new (o := .lst (vn ((i + 1) :: up l (i + 1)))) nq)
      have hp5 := Same.new (o := .lst (vn ((i + 1) :: up l (i + 1)))) nq _ _ hp4
      have hq5 : (upd (upd H' p2 (.lst [.int (1 + (i : Int))])) q (.lst (vn ((i + 1) :: up l (i + 1))))) q = some (.lst (vn ((i + 1) :: up l (i + 1)))) := upd_same
      have pq : q ≠ p := (ne_of_none hp4 nq).symm
      generalize upd (upd H' p2 (.lst [.int (1 + (i : Int))])) q (.lst (vn ((i + 1) :: up l (i + 1)))) = H5 at s5 hp5 hq5
      refine ⟨q, rfl, ⟨_, SqL.of hq5⟩, for_list (K := K) (a := q) (xs := vn ((i + 1) :: up l (i + 1))) (fun j σ H2 => ∃ y4, σ = [some (.ref e), some (.ref c), some (.ref p), some (.int ((i + 1 : Nat) : Int)), y4] ∧ Same H H2 ∧ H2 q = some (.lst (vn ((i + 1) :: up l (i + 1)))) ∧
          H2 p = some (.lst (vn (bumps (bumps (List.replicate l.length 0) ((List.range i).flatMap fun i => (sheetL l b (i + 1)).map fun e => e - 1)) (((((i + 1) :: up l (i + 1)).take j).filter fun c => decide (par b (i + 1) < c)).map fun e => e - 1)))))
        ⟨y4, by rw [ez]; rfl, s5, hq5, hp5⟩ (fun j σ H2 _ ⟨_, _, _, z, _⟩ => SqL.of z) (fun j x σ H2 hx r => ?_) (fun σ H2 r => ?_)⟩
      · obtain ⟨y4, rfl, s6, hq6, hp6⟩ := r
        obtain ⟨y, hy, rfl⟩ := vn_of hx
        have ym := List.mem_of_getElem? hy
        have yl : y ≤ i + 1 := by
          rcases List.mem_cons.mp ym with z | z
          · omega
          · have := up_lt hH _ _ z
            omega
        refine ⟨.int (y : Int), rfl, .ref c, rfl, .int ((i + 1 : Nat) : Int), rfl, _, _, rfl, rfl, c, _, _, .int (par b (i + 1) : Int), rfl, rfl, s6.t hT, par_ix (by omega) (by omega), _, _, rfl, rfl, _, rfl, ite2 (fun c1 => ?_) (fun c1 => ?_)⟩
        · have d1 : par b (i + 1) < y := by have := of_decide_eq_true c1; omega
          generalize hz : bumps (bumps (List.replicate l.length 0) ((List.range i).flatMap fun i => (sheetL l b (i + 1)).map fun e => e - 1)) (((((i + 1) :: up l (i + 1)).take j).filter fun c => decide (par b (i + 1) < c)).map fun e => e - 1) = acc at hp6
          have hlen : acc.length = l.length := by rw [← hz, bumps_len, bumps_len, List.length_replicate]
          have ha := getD_some (l := acc) (i := y - 1) (by omega)
          have ey : ((y : Int) - 1) = ((y - 1 : Nat) : Int) := by omega
          refine ⟨.ref p, rfl, .int (y : Int), rfl, _, _, rfl, rfl, p, vn acc, _, .int ((acc.getD (y - 1) 0 : Nat) : Int), rfl, rfl, SqL.of hp6, by rw [ey]; exact nat_ix ha, _, _, rfl, rfl, .ref p, rfl, .int (y : Int), rfl, _, _, rfl, rfl, p, vn acc, _, y - 1, rfl, rfl, hp6, ?_, ?_⟩
          · rw [vn_len]
            show ixN acc.length ((y : Int) - 1) = some (y - 1)
            rw [ey]
            exact Evl.ixN_nat (by omega)
          · refine ⟨_, rfl, Same.mut s6 n0, by rw [upd_ne pq]; exact hq6, ?_⟩
            rw [upd_same, filt_yes hy (decide_eq_true d1), List.map_append, bumps_app, hz]
            exact congrArg (fun z => some (HO.lst z)) (vn_set acc (y - 1) (acc.getD (y - 1) 0 + 1))
        · have d1 : ¬ par b (i + 1) < y := fun z => c1 (decide_eq_true (by omega))
          refine ⟨_, rfl, s6, hq6, ?_⟩
          rw [filt_no hy (by simpa using d1)]
          exact hp6
      · obtain ⟨y4, rfl, s6, hq6, hp6⟩ := r
        rw [vn_len, List.take_length, ← bumps_app] at hp6
        refine ⟨_, _, rfl, s6, ?_⟩
        rw [flat_next]
        exact hp6
    · obtain ⟨y3, y4, rfl, sm, hp⟩ := q
      exact ⟨.ref p, rfl, k p H' n0 sm hp⟩
/-- _law_same(told, due): it holds -/
def spSame (K : PySem.W.Frag) : Sp := fun vs H Q _ => ∃ (a d : Addr) (ns : List Nat), vs = [.ref a, .ref d] ∧ SqT K H a (vn ns) ∧ (SqL K H d (vn ns) ∨ SqT K H d (vn ns)) ∧ RetV (.bl true) H Q
theorem ok_law_same (B : Bl mg) (D : Dn K mg "_law_same" s_law_same ["_law_told", "_law_due"]) : Ok P w K mg base "_law_same" ["_law_told", "_law_due"] 1 (spSame K) := by
  obtain ⟨f, fd, F, g, b⟩ := D.ex
  have sc := sc_law_same
  refine ⟨f, fd, g, F.kp, b, F.ok sc (fun vs H Q E h => ?_) (fun cdv A outer s H vs Q E hr h => ?_)⟩
  · obtain ⟨a, d, ns, rfl, _⟩ := h
    rfl
  · obtain ⟨a, d, ns, rfl, hS, hD, k⟩ := h
    refine ⟨_, (pss_cons (ps_if (PW.pt (pw_or (pt_not (pt_val (pe_callB call_isi (by rfl) B.n_isinstance (by decide +kernel) (pa_cons (pv 0) (pa_cons (pe_bltn (v := .ty "tuple") (by rfl) B.n_tuple (by decide +kernel) rfl) pa_nil))))) (pw_or1 (pt_cmpR op_ne (pe_callB call_len_seq (by rfl) B.n_len PySem.boot_len (pa_cons (pv 0) pa_nil)) (pe_callB call_len_seq (by rfl) B.n_len PySem.boot_len (pa_cons (pv 1) pa_nil)) (nomark _))))) (pss_one (ps_ret pe_bl)) pss_nil)
    (pss_cons (ps_for PassesOwn.never rfl (pi_tup (pv 0)) (pg_name (i := 2) sc.nd rfl (Or.inl rfl))
      (pss_one (ps_if (PW.pt (pw_or (pt_not (pt_val (pe_callB call_isi (by rfl) B.n_isinstance (by decide +kernel) (pa_cons (pv 2) (pa_cons (pe_bltn (v := .ty "int") (by rfl) B.n_int (by decide +kernel) rfl) pa_nil))))) (pw_or1 (pt_val (pe_callB call_isi (by rfl) B.n_isinstance (by decide +kernel) (pa_cons (pv 2) (pa_cons (pe_bltn (v := .ty "bool") (by rfl) B.n_bool (by decide +kernel) rfl) pa_nil))))))) (pss_one (ps_ret pe_bl)) pss_nil)))
    (pss_one (ps_ret (pe_cmpR (op_eqD hr.units) (pv 0) (pe_callTy call_tuple_of (by rfl) B.n_tuple (by decide +kernel) (pa_cons (pv 1) pa_nil)) (nomark _)))))), ?_⟩
    refine ⟨.ref a, rfl, _, _, _, _, true, rfl, .ty _, tyx_tup hS, kit_tt, true, rfl, iteF ?_⟩
    refine ⟨.ref a, rfl, a, _, rfl, .inr hS, .ref d, rfl, d, _, rfl, hD, rfl, false, ?_, iteF ?_⟩
    · show V.bl (!decide (V.int ((vn ns).length : Int) = V.int ((vn ns).length : Int))) = V.bl false
      rw [decide_eq_true rfl]; rfl
    refine ⟨.ref a, rfl, a, rfl, ⟨_, hS⟩, for_tup (K := K) (a := a) (xs := vn ns) (fun i σ H' => ∃ y2, σ = [some (.ref a), some (.ref d), y2] ∧ H' = H) ⟨none, rfl, rfl⟩ (fun i σ H' _ ⟨_, _, e⟩ => by rw [e]; exact hS) (fun i x σ H' hx q => ?_) (fun σ H' q => ?_)⟩
    · obtain ⟨y2, rfl, rfl⟩ := q
      obtain ⟨y, hy, rfl⟩ := vn_of hx
      refine ⟨.int (y : Int), rfl, _, _, _, _, true, rfl, .ty _, .base (.int _), kit_ii, true, rfl, iteF ?_⟩
      exact ⟨.int (y : Int), rfl, _, _, _, _, false, rfl, .ty _, .base (.int _), kit_ib, false, rfl, iteF ⟨_, rfl, rfl⟩⟩
    · obtain ⟨y2, rfl, rfl⟩ := q
      have fin : ∀ t H2, Same H' H2 → SqT K H2 t (vn ns) → rEqD K (.ref a) (.ref t) H2 Q := fun t H2 s2 ht => by
        refine ⟨_, _, dp_tup (s2.t hS), dp_tup ht, shaped_td ns, shaped_td ns, ?_⟩
        show Q (.bl (PyData.eqv (td ns) (td ns))) H2
        rw [eqv_td, decide_eq_true rfl]
        exact k _ s2
      rcases hD with hD | hD
      · exact ⟨.ref a, rfl, .ref d, rfl, d, _, rfl, .inl ⟨hD, fun t nt => fin t _ (Same.new nt) (SqT.of upd_same)⟩⟩
      · exact ⟨.ref a, rfl, .ref d, rfl, d, _, rfl, .inr ⟨hD, fin d _ (Same.refl _) hD⟩⟩
/-- _law_all_at_most(low, high): it holds -/
def spAtMost (K : PySem.W.Frag) : Sp := fun vs H Q _ => ∃ (a d : Addr) (xs ys : List Nat), vs = [.ref a, .ref d] ∧ SqL K H a (vn xs) ∧ SqL K H d (vn ys) ∧ xs.length = ys.length ∧ xs.length ≤ 1000 ∧ (∀ i, i < xs.length → xs.getD i 0 ≤ ys.getD i 0) ∧ RetV (.bl true) H Q
theorem ok_law_all_at_most (B : Bl mg) (D : Dn K mg "_law_all_at_most" s_law_all_at_most ["_law_low", "_law_high"]) : Ok P w K mg base "_law_all_at_most" ["_law_low", "_law_high"] 1 (spAtMost K) := by
  obtain ⟨f, fd, F, g, b⟩ := D.ex
  have sc := sc_law_all_at_most
  refine ⟨f, fd, g, F.kp, b, F.ok sc (fun vs H Q E h => ?_) (fun cdv A outer s H vs Q E hr h => ?_)⟩
  · obtain ⟨a, d, xs, ys, rfl, _⟩ := h
    rfl
  · obtain ⟨a, d, xs, ys, rfl, hS, hT, hxy, hl, hle, k⟩ := h
    refine ⟨_, (pss_one (ps_ret (pe_callB (cr_all rfl) (by rfl) B.n_all (by decide +kernel) (pa_cons (pe_lc (own := [("_law_a", 2), ("_law_b", 3)]) rfl sc.nd (RZ.pi_zipA (by rfl) B.n_zip (pa_cons (pv 0) (pa_cons (pv 1) pa_nil))) (blkOk_by (N := N_law_all_at_most) (sc := defScope s_law_all_at_most) (by decide +kernel)) (fun _ _ _ _ _ => (show PG _ _ (gTup K 2 _) from pg_tup rfl (pgs_cons (pg_name (i := 2) sc.nd rfl (Or.inl rfl)) (pgs_cons (pg_name (i := 3) sc.nd rfl (Or.inl rfl)) pgs_nil)))) (fun _ _ _ _ _ => pts_nil) (fun _ _ _ _ _ => (pe_cmpR op_le (pv 2) (pv 3) (nomark _)))) pa_nil)))), ?_⟩
    refine ⟨.ref a, rfl, .ref d, rfl, a, d, _, _, rfl, .inl ⟨hS, hT, fun Dl nD => ?_⟩⟩
    refine lc_it (walk_zip (K := K) (a := a) (b := d) (xs := vn xs) (ys := vn ys) (n := xs.length) (by rw [vn_len, vn_len]; omega)) (fun i H' => Same H H' ∧ H' Dl = some (.lst ((tru i).map V.bl))) ⟨Same.new nD, upd_same⟩
      (fun i H' _ p => ⟨p.1.seq hS, p.1.seq hT⟩) (fun i x H' H'' hi p y => ?_) (fun H' p => ?_)
    · obtain ⟨T, u1, u2, rfl, nT, rfl, e1, e2⟩ := y
      obtain ⟨x, hx, rfl⟩ := vn_of e1
      obtain ⟨y, hy, rfl⟩ := vn_of e2
      have hle1 := hle i hi
      rw [getD_getElem?, getD_getElem?, hx, hy] at hle1
      have hxy1 : x ≤ y := hle1
      have s1 := p.1.trans (Same.new (o := .tup [.int (x : Int), .int (y : Int)]) nT)
      have hD1 := Same.new (o := .tup [.int (x : Int), .int (y : Int)]) nT _ _ p.2
      refine ⟨T, _, rfl, SqT.of upd_same, rfl, _, _, rfl, _, _, rfl, rfl, rfl, .int (x : Int), rfl, .int (y : Int), rfl, _, _, rfl, rfl, _, hD1, sizeLt (by rw [tru_len]; omega), Same.mut s1 nD, ?_⟩
      rw [upd_same, tru_next]
      exact congrArg (fun z => some (HO.lst ((tru i).map V.bl ++ [z]))) (blT (show (x : Int) ≤ (y : Int) by omega))
    · refine ⟨Dl, _, rfl, SqL.of p.2, ?_⟩
      show Q (.bl ((tru _).all id)) H'
      rw [tru_all]
      exact k _ p.1
end
end K58

/-! K58F: the law's tests. -/
namespace K58
open PySem PySem.Spec PyProof.Rows L2
abbrev s_law_crossed_right : Stmt := topS 46
abbrev N_law_crossed_right : List Str := ["_law_history_here", "_law_elders_here", "_law_bases", "_law_told", "_law_due", "_law_sure"]
theorem sc_law_crossed_right : FnScope N_law_crossed_right ["_law_history_here", "_law_elders_here", "_law_bases"] (defScope s_law_crossed_right) := ⟨rfl, rfl, rfl, by decide +kernel, rfl, by decide +kernel, by decide +kernel⟩
abbrev s_law_led_right : Stmt := topS 47
abbrev N_law_led_right : List Str := ["_law_history_here", "_law_elders_here", "_law_bases", "_law_heights_here", "_law_plan"]
theorem sc_law_led_right : FnScope N_law_led_right ["_law_history_here", "_law_elders_here", "_law_bases"] (defScope s_law_led_right) := ⟨rfl, rfl, rfl, by decide +kernel, rfl, by decide +kernel, by decide +kernel⟩
abbrev s_law_counts_right : Stmt := topS 48
abbrev N_law_counts_right : List Str := ["_law_history_here", "_law_elders_here", "_law_bases"]
theorem sc_law_counts_right : FnScope N_law_counts_right ["_law_history_here", "_law_elders_here", "_law_bases"] (defScope s_law_counts_right) := ⟨rfl, rfl, rfl, by decide +kernel, rfl, by decide +kernel, by decide +kernel⟩
abbrev s_law_records_right : Stmt := topS 49
abbrev N_law_records_right : List Str := ["_law_history_here", "_law_plan", "_law_heights_here", "_law_reads_here", "_law_v", "_law_told", "_law_chain", "_law_at", "_law_k", "_law_tall", "_law_z", "_law_a", "_law_b"]
theorem sc_law_records_right : FnScope N_law_records_right ["_law_history_here", "_law_plan", "_law_heights_here"] (defScope s_law_records_right) := ⟨rfl, rfl, rfl, by decide +kernel, rfl, by decide +kernel, by decide +kernel⟩
abbrev s_law_by_heights : Stmt := topS 50
abbrev N_law_by_heights : List Str := ["_law_history_here", "_law_elders_here", "_law_heights_here", "_law_more", "_law_plan", "_law_raised", "_law_wide", "_law_h"]
theorem sc_law_by_heights : FnScope N_law_by_heights ["_law_history_here", "_law_elders_here", "_law_heights_here", "_law_more"] (defScope s_law_by_heights) := ⟨rfl, rfl, rfl, by decide +kernel, rfl, by decide +kernel, by decide +kernel⟩
theorem neF {x y : V} (h : x = y) : V.bl (!decide (x = y)) = V.bl false := by rw [decide_eq_true h]; rfl
theorem isNT : decide (V.non = V.non) = true := decide_eq_true rfl
theorem isNF (p : Addr) : decide (V.ref p = V.non) = false := decide_eq_false (fun q => by cases q)
section
variable {P : Program} {w : World} {K : PySem.W.Frag} {mg : Str → Option Value} {base : Heap}
def spXR (K : PySem.W.Frag) : Sp := fun vs H Q _ => ∃ (a e c : Addr) (h b : List Nat) (rs : List Addr), vs = [.ref a, .ref e, .ref c] ∧ SqT K H a (vn h) ∧ IsE H e h rs ∧ SqT K H c (vn b) ∧ Hist h ∧ Bas h b ∧ h.length ≤ 40 ∧ RetV (.bl true) H Q
theorem ok_law_crossed_right (B : Bl mg) (D : Dn K mg "_law_crossed_right" s_law_crossed_right ["_law_history_here", "_law_elders_here", "_law_bases"]) (C1 : Ok P w K mg base "crossing_of" ["history", "bases"] 6 (spFirst K)) (C2 : Ok P w K mg base "_law_crossing" ["_law_elders_here", "_law_bases"] 1 (spCrossL K))
    (C3 : Ok P w K mg base "is_plan" ["history", "thing"] 6 (spPlan K)) (C4 : Ok P w K mg base "is_bases" ["history", "thing"] 5 (spBases K)) (C5 : Ok P w K mg base "_law_same" ["_law_told", "_law_due"] 1 (spSame K)) :
    Ok P w K mg base "_law_crossed_right" ["_law_history_here", "_law_elders_here", "_law_bases"] 7 (spXR K) := by
  obtain ⟨f, fd, F, g, b⟩ := D.ex
  obtain ⟨f_crossing_of, fd_crossing_of, g_crossing_of, k_crossing_of, b_crossing_of, G_crossing_of⟩ := C1.ex
  obtain ⟨f_law_crossing, fd_law_crossing, g_law_crossing, k_law_crossing, b_law_crossing, G_law_crossing⟩ := C2.ex
  obtain ⟨f_is_plan, fd_is_plan, g_is_plan, k_is_plan, b_is_plan, G_is_plan⟩ := C3.ex
  obtain ⟨f_is_bases, fd_is_bases, g_is_bases, k_is_bases, b_is_bases, G_is_bases⟩ := C4.ex
  obtain ⟨f_law_same, fd_law_same, g_law_same, k_law_same, b_law_same, G_law_same⟩ := C5.ex
  have sc := sc_law_crossed_right
  refine ⟨f, fd, g, F.kp, b, F.ok sc (fun vs H Q E h => ?_) (fun cdv A outer s H vs Q E hr h => ?_)⟩
  · obtain ⟨a, e, c, l, b, rs, rfl, _⟩ := h
    rfl
  · obtain ⟨a, e, c, l, b, rs, rfl, hS, hE, hT, hH, hB, hl, k⟩ := h
    refine ⟨_, (pss_cons (ps_set (i := 3) sc.nd rfl (Or.inl rfl) (pe_call G_crossing_of (hr.mono (by decide)) (by rfl) g_crossing_of k_crossing_of b_crossing_of .nil pass0 (pa_cons (pv 0) (pa_cons (pv 2) pa_nil))))
    (pss_cons (ps_set (i := 4) sc.nd rfl (Or.inl rfl) (pe_call G_law_crossing (hr.mono (by decide)) (by rfl) g_law_crossing k_law_crossing b_law_crossing .nil pass0 (pa_cons (pv 1) (pa_cons (pv 2) pa_nil))))
    (pss_cons (ps_set (i := 5) sc.nd rfl (Or.inl rfl) (pe_call G_is_plan (hr.mono (by decide)) (by rfl) g_is_plan k_is_plan b_is_plan .nil pass0 (pa_cons (pv 0) (pa_cons (pv 2) pa_nil))))
    (pss_cons (ps_if (PW.pt (pw_or (pt_cmpR op_isnot_bl (pe_call G_is_bases (hr.mono (by decide)) (by rfl) g_is_bases k_is_bases b_is_bases .nil pass0 (pa_cons (pv 0) (pa_cons (pv 2) pa_nil))) pe_bl (nomark _)) (pw_or (pt_not (pt_val (pe_callB call_isi (by rfl) B.n_isinstance (by decide +kernel) (pa_cons (pv 5) (pa_cons (pe_bltn (v := .ty "bool") (by rfl) B.n_bool (by decide +kernel) rfl) pa_nil))))) (pw_or1 (pt_cmpR op_ne (pv 5) (pe_cmpR op_isN (pv 4) pe_non (nomark _)) (nomark _)))))) (pss_one (ps_ret pe_bl)) pss_nil)
    (pss_cons (ps_if (pt_cmpR op_isN (pv 4) pe_non (nomark _)) (pss_one (ps_ret (pe_cmpR op_isN (pv 3) pe_non (nomark _)))) pss_nil)
    (pss_one (ps_ret (pe_call G_law_same (hr.mono (by decide)) (by rfl) g_law_same k_law_same b_law_same .nil pass0 (pa_cons (pv 3) (pa_cons (pv 4) pa_nil)))))))))), ?_⟩
    cases hc : crossP l b with
    | none =>
      refine ⟨.ref a, rfl, .ref c, rfl, a, c, l, b, rfl, hS, hT, hH, hB, hl, fun _ H1 s1 => ?_, fun v z q => by rw [hc] at q; cases q⟩
      refine ⟨.ref e, rfl, .ref c, rfl, e, c, l, b, rs, rfl, hE.same s1, s1.t hT, hH, hB, hl, fun _ H2 s2 => ?_, fun v z q => by rw [hc] at q; cases q⟩
      have s2 := s1.trans s2
      refine ⟨.ref a, rfl, .ref c, rfl, a, c, l, b, rfl, s2.t hS, s2.t hT, hH, hB, hl, fun H3 s3 => ?_⟩
      rw [decide_eq_true hc]
      have s3 := s2.trans s3
      refine ⟨.ref a, rfl, .ref c, rfl, a, c, l, b, rfl, s3.t hS, s3.t hT, hH, hB, hl, fun H4 s4 => ?_⟩
      have s4 := s3.trans s4
      refine ⟨true, true, rfl, rfl, false, rfl, iteF ?_⟩
      refine ⟨.bl true, rfl, _, _, _, _, true, rfl, .ty _, .base (.bl _), kit_bb, true, rfl, iteF ?_⟩
      refine ⟨.bl true, rfl, .non, rfl, rfl, rfl, false, neF (congrArg V.bl isNT.symm), iteF ?_⟩
      refine ⟨.non, rfl, rfl, true, congrArg V.bl isNT, iteT ⟨.non, rfl, rfl, ?_⟩⟩
      show Q (.bl (decide (V.non = V.non))) H4
      rw [isNT]
      exact k _ s4
    | some vz =>
      obtain ⟨v, z⟩ := vz
      refine ⟨.ref a, rfl, .ref c, rfl, a, c, l, b, rfl, hS, hT, hH, hB, hl, fun q => by rw [hc] at q; (cases q), fun v' z' q p1 H1 n1 s1 e1 => ?_⟩
      obtain ⟨rfl, rfl⟩ : v = v' ∧ z = z' := by rw [hc] at q; cases q; exact ⟨rfl, rfl⟩
      refine ⟨.ref e, rfl, .ref c, rfl, e, c, l, b, rs, rfl, hE.same s1, s1.t hT, hH, hB, hl, fun q => by rw [hc] at q; (cases q), fun v' z' q p2 H2 n2 s2 e2 => ?_⟩
      obtain ⟨rfl, rfl⟩ : v = v' ∧ z = z' := by rw [hc] at q; cases q; exact ⟨rfl, rfl⟩
      have t1 := s2 _ _ e1
      have s2 := s1.trans s2
      refine ⟨.ref a, rfl, .ref c, rfl, a, c, l, b, rfl, s2.t hS, s2.t hT, hH, hB, hl, fun H3 s3 => ?_⟩
      rw [decide_eq_false (show ¬ crossP l b = none by rw [hc]; exact fun q => by cases q)]
      have t1 := s3 _ _ t1
      have t2 := s3 _ _ e2
      have s3 := s2.trans s3
      refine ⟨.ref a, rfl, .ref c, rfl, a, c, l, b, rfl, s3.t hS, s3.t hT, hH, hB, hl, fun H4 s4 => ?_⟩
      have t1 := s4 _ _ t1
      have t2 := s4 _ _ t2
      have s4 := s3.trans s4
      refine ⟨true, true, rfl, rfl, false, rfl, iteF ?_⟩
      refine ⟨.bl false, rfl, _, _, _, _, true, rfl, .ty _, .base (.bl _), kit_bb, true, rfl, iteF ?_⟩
      refine ⟨.bl false, rfl, .ref p2, rfl, rfl, rfl, false, neF (congrArg V.bl (isNF p2).symm), iteF ?_⟩
      refine ⟨.ref p2, rfl, rfl, false, congrArg V.bl (isNF p2), iteF ?_⟩
      exact ⟨.ref p1, rfl, .ref p2, rfl, p1, p2, _, rfl, SqT.of t1, .inr (SqT.of t2), fun H5 s5 => k _ (s4.trans s5)⟩
/-- _law_led_right -/
theorem ok_law_led_right (B : Bl mg) (D : Dn K mg "_law_led_right" s_law_led_right ["_law_history_here", "_law_elders_here", "_law_bases"]) (C1 : Ok P w K mg base "_law_crossed_right" ["_law_history_here", "_law_elders_here", "_law_bases"] 7 (spXR K)) (C2 : Ok P w K mg base "heights_of" ["history", "bases"] 8 (spHof K))
    (C3 : Ok P w K mg base "_law_heights" ["_law_bases"] 2 (spHtsL K)) (C4 : Ok P w K mg base "bases_by" ["history", "heights"] 4 (spBy K)) (C5 : Ok P w K mg base "_law_same" ["_law_told", "_law_due"] 1 (spSame K)) (C6 : Ok P w K mg base "_law_higher" ["_law_heights_here", "_law_elders_here"] 1 (spHigher K))
    (C7 : Ok P w K mg base "_law_crossing" ["_law_elders_here", "_law_bases"] 1 (spCrossL K)) (C8 : Ok P w K mg base "_law_all_at_most" ["_law_low", "_law_high"] 1 (spAtMost K)) (C9 : Ok P w K mg base "_law_reads" ["_law_bases"] 1 (spReadsL K)) (C10 : Ok P w K mg base "_law_writes" ["_law_elders_here", "_law_bases"] 1 (spWritesL K)) :
    Ok P w K mg base "_law_led_right" ["_law_history_here", "_law_elders_here", "_law_bases"] 9 (spXR K) := by
  obtain ⟨f, fd, F, g, b⟩ := D.ex
  obtain ⟨f_law_crossed_right, fd_law_crossed_right, g_law_crossed_right, k_law_crossed_right, b_law_crossed_right, G_law_crossed_right⟩ := C1.ex
  obtain ⟨f_heights_of, fd_heights_of, g_heights_of, k_heights_of, b_heights_of, G_heights_of⟩ := C2.ex
  obtain ⟨f_law_heights, fd_law_heights, g_law_heights, k_law_heights, b_law_heights, G_law_heights⟩ := C3.ex
  obtain ⟨f_bases_by, fd_bases_by, g_bases_by, k_bases_by, b_bases_by, G_bases_by⟩ := C4.ex
  obtain ⟨f_law_same, fd_law_same, g_law_same, k_law_same, b_law_same, G_law_same⟩ := C5.ex
  obtain ⟨f_law_higher, fd_law_higher, g_law_higher, k_law_higher, b_law_higher, G_law_higher⟩ := C6.ex
  obtain ⟨f_law_crossing, fd_law_crossing, g_law_crossing, k_law_crossing, b_law_crossing, G_law_crossing⟩ := C7.ex
  obtain ⟨f_law_all_at_most, fd_law_all_at_most, g_law_all_at_most, k_law_all_at_most, b_law_all_at_most, G_law_all_at_most⟩ := C8.ex
  obtain ⟨f_law_reads, fd_law_reads, g_law_reads, k_law_reads, b_law_reads, G_law_reads⟩ := C9.ex
  obtain ⟨f_law_writes, fd_law_writes, g_law_writes, k_law_writes, b_law_writes, G_law_writes⟩ := C10.ex
  have sc := sc_law_led_right
  refine ⟨f, fd, g, F.kp, b, F.ok sc (fun vs H Q E h => ?_) (fun cdv A outer s H vs Q E hr h => ?_)⟩
  · obtain ⟨a, e, c, l, b, rs, rfl, _⟩ := h
    rfl
  · obtain ⟨a, e, c, l, b, rs, rfl, hS, hE, hT, hH, hB, hl, k⟩ := h
    have hbl := hB.1
    have hBH := hB.hist hH
    have hPB := higher_bas hH (htsOf b)
    have hPH := hPB.hist hH
    have hPl := higher_len l (htsOf b)
    have hPn := higher_none hH (htsOf b)
    have hX := htsOf_hts hB
    refine ⟨_, (pss_cons (ps_if (pt_not (pt_val (pe_call G_law_crossed_right (hr.mono (by decide)) (by rfl) g_law_crossed_right k_law_crossed_right b_law_crossed_right .nil pass0 (pa_cons (pv 0) (pa_cons (pv 1) (pa_cons (pv 2) pa_nil)))))) (pss_one (ps_ret pe_bl)) pss_nil)
    (pss_cons (ps_set (i := 3) sc.nd rfl (Or.inl rfl) (pe_call G_heights_of (hr.mono (by decide)) (by rfl) g_heights_of k_heights_of b_heights_of .nil pass0 (pa_cons (pv 0) (pa_cons (pv 2) pa_nil))))
    (pss_cons (ps_if (pt_not (pt_val (pe_call G_law_same (hr.mono (by decide)) (by rfl) g_law_same k_law_same b_law_same .nil pass0 (pa_cons (pv 3) (pa_cons (pe_call G_law_heights (hr.mono (by decide)) (by rfl) g_law_heights k_law_heights b_law_heights .nil pass0 (pa_cons (pv 2) pa_nil)) pa_nil))))) (pss_one (ps_ret pe_bl)) pss_nil)
    (pss_cons (ps_set (i := 4) sc.nd rfl (Or.inl rfl) (pe_call G_bases_by (hr.mono (by decide)) (by rfl) g_bases_by k_bases_by b_bases_by .nil pass0 (pa_cons (pv 0) (pa_cons (pv 3) pa_nil))))
    (pss_cons (ps_if (pt_not (pt_val (pe_call G_law_same (hr.mono (by decide)) (by rfl) g_law_same k_law_same b_law_same .nil pass0 (pa_cons (pv 4) (pa_cons (pe_call G_law_higher (hr.mono (by decide)) (by rfl) g_law_higher k_law_higher b_law_higher .nil pass0 (pa_cons (pv 3) (pa_cons (pv 1) pa_nil))) pa_nil))))) (pss_one (ps_ret pe_bl)) pss_nil)
    (pss_cons (ps_if (PW.pt (pw_or (pt_cmpR op_notN (pe_call G_law_crossing (hr.mono (by decide)) (by rfl) g_law_crossing k_law_crossing b_law_crossing .nil pass0 (pa_cons (pv 1) (pa_cons (pv 4) pa_nil))) pe_non (nomark _)) (pw_or1 (pt_cmpR op_ne (pe_cmpR (op_eqD hr.units) (pv 4) (pv 2) (nomark _)) (pe_cmpR op_isN (pe_call G_law_crossing (hr.mono (by decide)) (by rfl) g_law_crossing k_law_crossing b_law_crossing .nil pass0 (pa_cons (pv 1) (pa_cons (pv 2) pa_nil))) pe_non (nomark _)) (nomark _))))) (pss_one (ps_ret pe_bl)) pss_nil)
    (pss_cons (ps_if (pt_not (pt_val (pe_call G_law_all_at_most (hr.mono (by decide)) (by rfl) g_law_all_at_most k_law_all_at_most b_law_all_at_most .nil pass0 (pa_cons (pe_call G_law_reads (hr.mono (by decide)) (by rfl) g_law_reads k_law_reads b_law_reads .nil pass0 (pa_cons (pv 4) pa_nil)) (pa_cons (pe_call G_law_reads (hr.mono (by decide)) (by rfl) g_law_reads k_law_reads b_law_reads .nil pass0 (pa_cons (pv 2) pa_nil)) pa_nil))))) (pss_one (ps_ret pe_bl)) pss_nil)
    (pss_one (ps_ret (pe_call G_law_all_at_most (hr.mono (by decide)) (by rfl) g_law_all_at_most k_law_all_at_most b_law_all_at_most .nil pass0 (pa_cons (pe_call G_law_writes (hr.mono (by decide)) (by rfl) g_law_writes k_law_writes b_law_writes .nil pass0 (pa_cons (pv 1) (pa_cons (pv 4) pa_nil))) (pa_cons (pe_call G_law_writes (hr.mono (by decide)) (by rfl) g_law_writes k_law_writes b_law_writes .nil pass0 (pa_cons (pv 1) (pa_cons (pv 2) pa_nil))) pa_nil)))))))))))), ?_⟩
    refine ⟨.ref a, rfl, .ref e, rfl, .ref c, rfl, a, e, c, l, b, rs, rfl, hS, hE, hT, hH, hB, hl, fun H1 s1 => ⟨true, rfl, iteF ?_⟩⟩
    refine ⟨.ref a, rfl, .ref c, rfl, a, c, l, b, rfl, s1.t hS, s1.t hT, hH, hB, hl, fun t H2 n2 s2 tt => ?_⟩
    have s2 := s1.trans s2
    refine ⟨.ref t, rfl, .ref c, rfl, c, b, rfl, s2.t hT, hBH, by omega, fun t2 H3 n3 s3 tt2 => ?_⟩
    have tt := s3 _ _ tt
    have s3 := s2.trans s3
    refine ⟨t, t2, _, rfl, SqT.of tt, .inr (SqT.of tt2), fun H4 s4 => ⟨true, rfl, iteF ?_⟩⟩
    have tt := s4 _ _ tt
    have s4 := s3.trans s4
    refine ⟨.ref a, rfl, .ref t, rfl, a, t, l, htsOf b, rfl, s4.t hS, SqT.of tt, hH, hX, hl, fun p H5 n5 s5 pp => ?_⟩
    have tt := s5 _ _ tt
    have s5 := s4.trans s5
    refine ⟨.ref p, rfl, .ref t, rfl, .ref e, rfl, t, e, l, htsOf b, rs, rfl, SqT.of tt, hE.same s5, hH, by rw [htsOf_len, hbl], hl, fun p2 H6 n6 s6 pp2 => ?_⟩
    have pp := s6 _ _ pp
    have s6 := s5.trans s6
    refine ⟨p, p2, _, rfl, SqT.of pp, .inr (SqT.of pp2), fun H7 s7 => ⟨true, rfl, iteF ?_⟩⟩
    have pp := s7 _ _ pp
    have s7 := s6.trans s7
    -- no crossing; the plan is the bases exactly if these do not cross
    refine ⟨.ref e, rfl, .ref p, rfl, e, p, l, higher l (htsOf b), rs, rfl, hE.same s7, SqT.of pp, hH, hPB, hl, fun _ H8 s8 => ?_, fun v z q => by rw [hPn] at q; cases q⟩
    have pp := s8 _ _ pp
    have s8 := s7.trans s8
    refine ⟨rfl, false, neF rfl, iteF ?_⟩
    refine ⟨.ref p, rfl, .ref c, rfl, _, _, dp_tup (SqT.of pp), dp_tup (s8.t hT), shaped_td _, shaped_td _, ?_⟩
    have rest : ∀ H9, Same H H9 → H9 p = some (.tup (vn (higher l (htsOf b)))) → ∀ Q', Q' = Q →
        (tCall (spReadsL K) [] E0 (tCons (tVar 4) tNil)) [some (V.ref a), some (V.ref e), some (V.ref c), some (V.ref t), some (V.ref p)] H9 (fun x H10 => (tCall (spReadsL K) [] E0 (tCons (tVar 2) tNil)) [some (V.ref a), some (V.ref e), some (V.ref c), some (V.ref t), some (V.ref p)] H10 fun y H11 =>
          spAtMost K [x, y] H11 (fun v H12 => ∃ c1, v = .bl c1 ∧ if (!c1) = true then Q' (.bl false) H12 else
            (tCall (spWritesL K) [] E0 (tCons (tVar 1) (tCons (tVar 4) tNil))) [some (V.ref a), some (V.ref e), some (V.ref c), some (V.ref t), some (V.ref p)] H12 (fun x H13 => (tCall (spWritesL K) [] E0 (tCons (tVar 1) (tCons (tVar 2) tNil))) [some (V.ref a), some (V.ref e), some (V.ref c), some (V.ref t), some (V.ref p)] H13 fun y H14 =>
              spAtMost K [x, y] H14 Q' E0)) E0) := fun H9 s9 pp Q' eQ => by
      subst eQ
      refine ⟨.ref p, rfl, p, _, rfl, SqT.of pp, hPH, by omega, fun r1 H10 n10 s10 e10 => ?_⟩
      have pp := s10 _ _ pp
      have s10 := s9.trans s10
      refine ⟨.ref c, rfl, c, _, rfl, s10.t hT, hBH, by omega, fun r2 H11 n11 s11 e11 => ?_⟩
      have pp := s11 _ _ pp
      have e10 := s11 _ _ e10
      have s11 := s10.trans s11
      refine ⟨r1, r2, _, _, rfl, SqL.of e10, SqL.of e11, by rw [reads_length, reads_length]; omega, by rw [reads_length]; omega, fun i hi => made_reads hH hB i (by rw [reads_length] at hi; omega), fun H12 s12 => ⟨true, rfl, iteF ?_⟩⟩
      have pp := s12 _ _ pp
      have s12 := s11.trans s12
      refine ⟨.ref e, rfl, .ref p, rfl, e, p, l, _, rs, rfl, hE.same s12, SqT.of pp, hH, by omega, hl, fun w1 H13 n13 s13 e13 => ?_⟩
      have s13 := s12.trans s13
      refine ⟨.ref e, rfl, .ref c, rfl, e, c, l, _, rs, rfl, hE.same s13, s13.t hT, hH, by omega, hl, fun w2 H14 n14 s14 e14 => ?_⟩
      have e13 := s14 _ _ e13
      have s14 := s13.trans s14
      refine ⟨w1, w2, _, _, rfl, SqL.of e13, SqL.of e14, by rw [writesL_len, writesL_len], by rw [writesL_len]; omega, fun i hi => ?_, fun H15 s15 => k _ (s14.trans s15)⟩
      rw [writesL_len] at hi
      rw [writesL_at hi, writesL_at hi]
      exact made_writes hH hB i
    have ev : PyData.eqv (td (higher l (htsOf b))) (td b) = decide (crossP l b = none) := by
      rw [eqv_td]
      by_cases c1 : crossP l b = none
      · rw [decide_eq_true c1, decide_eq_true ((made_iff hH hB).mpr c1)]
      · rw [decide_eq_false c1, decide_eq_false (fun q => c1 ((made_iff hH hB).mp q))]
    rw [ev]
    cases hc : crossP l b with
    | none =>
      refine ⟨.ref e, rfl, .ref c, rfl, e, c, l, b, rs, rfl, hE.same s8, s8.t hT, hH, hB, hl, fun _ H9 s9 => ?_, fun v z q => by rw [hc] at q; cases q⟩
      refine ⟨rfl, rfl, false, neF (by rw [decide_eq_true rfl]; exact congrArg V.bl isNT.symm), iteF ?_⟩
      exact rest H9 (s8.trans s9) (s9 _ _ pp) Q rfl
    | some vz =>
      obtain ⟨v, z⟩ := vz
      refine ⟨.ref e, rfl, .ref c, rfl, e, c, l, b, rs, rfl, hE.same s8, s8.t hT, hH, hB, hl, fun q => by rw [hc] at q; (cases q), fun v' z' q p9 H9 n9 s9 e9 => ?_⟩
      refine ⟨rfl, rfl, false, neF ?_, iteF ?_⟩
      · rw [decide_eq_false (fun q => by cases q)]
        exact congrArg V.bl (isNF p9).symm
      · exact rest H9 (s8.trans s9) (s9 _ _ pp) Q rfl
theorem ok_law_counts_right (B : Bl mg) (D : Dn K mg "_law_counts_right" s_law_counts_right ["_law_history_here", "_law_elders_here", "_law_bases"]) (C1 : Ok P w K mg base "_law_same" ["_law_told", "_law_due"] 1 (spSame K)) (C2 : Ok P w K mg base "reads_by" ["history", "bases"] 7 (spReads K))
    (C3 : Ok P w K mg base "_law_reads" ["_law_bases"] 1 (spReadsL K)) (C4 : Ok P w K mg base "writes_by" ["history", "bases"] 7 (spWrites K)) (C5 : Ok P w K mg base "_law_writes" ["_law_elders_here", "_law_bases"] 1 (spWritesL K)) :
    Ok P w K mg base "_law_counts_right" ["_law_history_here", "_law_elders_here", "_law_bases"] 8 (spXR K) := by
  obtain ⟨f, fd, F, g, b⟩ := D.ex
  obtain ⟨f_law_same, fd_law_same, g_law_same, k_law_same, b_law_same, G_law_same⟩ := C1.ex
  obtain ⟨f_reads_by, fd_reads_by, g_reads_by, k_reads_by, b_reads_by, G_reads_by⟩ := C2.ex
  obtain ⟨f_law_reads, fd_law_reads, g_law_reads, k_law_reads, b_law_reads, G_law_reads⟩ := C3.ex
  obtain ⟨f_writes_by, fd_writes_by, g_writes_by, k_writes_by, b_writes_by, G_writes_by⟩ := C4.ex
  obtain ⟨f_law_writes, fd_law_writes, g_law_writes, k_law_writes, b_law_writes, G_law_writes⟩ := C5.ex
  have sc := sc_law_counts_right
  refine ⟨f, fd, g, F.kp, b, F.ok sc (fun vs H Q E h => ?_) (fun cdv A outer s H vs Q E hr h => ?_)⟩
  · obtain ⟨a, e, c, l, b, rs, rfl, _⟩ := h
    rfl
  · obtain ⟨a, e, c, l, b, rs, rfl, hS, hE, hT, hH, hB, hl, k⟩ := h
    have hbl := hB.1
    have hBH := hB.hist hH
    refine ⟨_, (pss_one (ps_ret (pe_and (pe_call G_law_same (hr.mono (by decide)) (by rfl) g_law_same k_law_same b_law_same .nil pass0 (pa_cons (pe_call G_reads_by (hr.mono (by decide)) (by rfl) g_reads_by k_reads_by b_reads_by .nil pass0 (pa_cons (pv 0) (pa_cons (pv 2) pa_nil))) (pa_cons (pe_call G_law_reads (hr.mono (by decide)) (by rfl) g_law_reads k_law_reads b_law_reads .nil pass0 (pa_cons (pv 2) pa_nil)) pa_nil))) (pe_one (pe_call G_law_same (hr.mono (by decide)) (by rfl) g_law_same k_law_same b_law_same .nil pass0 (pa_cons (pe_call G_writes_by (hr.mono (by decide)) (by rfl) g_writes_by k_writes_by b_writes_by .nil pass0 (pa_cons (pv 0) (pa_cons (pv 2) pa_nil))) (pa_cons (pe_call G_law_writes (hr.mono (by decide)) (by rfl) g_law_writes k_law_writes b_law_writes .nil pass0 (pa_cons (pv 1) (pa_cons (pv 2) pa_nil))) pa_nil))))))), ?_⟩
    refine ⟨.ref a, rfl, .ref c, rfl, a, c, l, b, rfl, hS, hT, hH, hB, hl, fun r1 H1 n1 s1 e1 => ?_⟩
    refine ⟨.ref c, rfl, c, _, rfl, s1.t hT, hBH, by omega, fun r2 H2 n2 s2 e2 => ?_⟩
    have e1 := s2 _ _ e1
    have s2 := s1.trans s2
    refine ⟨r1, r2, _, rfl, SqT.of e1, .inl (SqL.of e2), fun H3 s3 => ⟨true, rfl, iteT ?_⟩⟩
    have s3 := s2.trans s3
    refine ⟨.ref a, rfl, .ref c, rfl, a, c, l, b, rfl, s3.t hS, s3.t hT, hH, hB, hl, fun r1 H4 n1 s4 e1 => ?_⟩
    have s4 := s3.trans s4
    refine ⟨.ref e, rfl, .ref c, rfl, e, c, l, _, rs, rfl, hE.same s4, s4.t hT, hH, by omega, hl, fun r2 H5 n2 s5 e2 => ?_⟩
    have e1 := s5 _ _ e1
    have s5 := s4.trans s5
    refine ⟨r1, r2, _, rfl, SqT.of e1, .inl (SqL.of (by rw [writes_eq]; exact e2)), fun H6 s6 => k _ (s5.trans s6)⟩
/-- _law_records_right(history, plan, heights) -/
def spRR (K : PySem.W.Frag) : Sp := fun vs H Q _ => ∃ (a c d : Addr) (h hs : List Nat), vs = [.ref a, .ref c, .ref d] ∧ SqT K H a (vn h) ∧ SqT K H c (vn (higher h hs)) ∧ SqT K H d (vn hs) ∧ Hist h ∧ Hts h hs ∧ h.length ≤ 40 ∧ RetV (.bl true) H Q
theorem ok_law_records_right (B : Bl mg) (D : Dn K mg "_law_records_right" s_law_records_right ["_law_history_here", "_law_plan", "_law_heights_here"]) (C1 : Ok P w K mg base "_law_reads" ["_law_bases"] 1 (spReadsL K)) (C2 : Ok P w K mg base "records_of" ["history", "heights", "version"] 5 (spRec K))
    (C3 : Ok P w K mg base "_law_same" ["_law_told", "_law_due"] 1 (spSame K)) (C4 : Ok P w K mg base "chain_of" ["history", "bases", "version"] 7 (spChain K)) : Ok P w K mg base "_law_records_right" ["_law_history_here", "_law_plan", "_law_heights_here"] 8 (spRR K) := by
  obtain ⟨f, fd, F, g, b⟩ := D.ex
  obtain ⟨f_law_reads, fd_law_reads, g_law_reads, k_law_reads, b_law_reads, G_law_reads⟩ := C1.ex
  obtain ⟨f_records_of, fd_records_of, g_records_of, k_records_of, b_records_of, G_records_of⟩ := C2.ex
  obtain ⟨f_law_same, fd_law_same, g_law_same, k_law_same, b_law_same, G_law_same⟩ := C3.ex
  obtain ⟨f_chain_of, fd_chain_of, g_chain_of, k_chain_of, b_chain_of, G_chain_of⟩ := C4.ex
  have sc := sc_law_records_right
  refine ⟨f, fd, g, F.kp, b, F.ok sc (fun vs H Q E h => ?_) (fun cdv A outer s H vs Q E hr h => ?_)⟩
  · obtain ⟨a, c, d, l, hs, rfl, _⟩ := h
    rfl
  · obtain ⟨a, c, d, l, hs, rfl, hS, hT, hD, hH, hX, hl, k⟩ := h
    have hxl := hX.1
    have hPB := higher_bas hH hs
    have hPH := hPB.hist hH
    have hPl := higher_len l hs
    refine ⟨_, (pss_cons (ps_set (i := 3) sc.nd rfl (Or.inl rfl) (pe_call G_law_reads (hr.mono (by decide)) (by rfl) g_law_reads k_law_reads b_law_reads .nil pass0 (pa_cons (pv 1) pa_nil)))
    (pss_cons (ps_for PassesOwn.never rfl (pi_range1 (by rfl) B.n_range (pa_cons (pe_callB call_len_seq (by rfl) B.n_len PySem.boot_len (pa_cons (pv 3) pa_nil)) pa_nil)) (pg_name (i := 4) sc.nd rfl (Or.inl rfl))
      (pss_cons (ps_set (i := 5) sc.nd rfl (Or.inl rfl) (pe_call G_records_of (hr.mono (by decide)) (by rfl) g_records_of k_records_of b_records_of .nil pass0 (pa_cons (pv 0) (pa_cons (pv 2) (pa_cons (pv 4) pa_nil)))))
    (pss_cons (ps_set (i := 6) sc.nd rfl (Or.inl rfl) (pe_lst pa_nil))
    (pss_cons (ps_set (i := 7) sc.nd rfl (Or.inl rfl) (pv 4))
    (pss_cons (ps_for PassesOwn.never rfl (pi_range1 (by rfl) B.n_range (pa_cons (pe_ix ix_list (pv 3) (pv 4) (fun _ _ => rfl)) pa_nil)) (pg_name (i := 8) sc.nd rfl (Or.inl rfl))
      (pss_cons (ps_expr (pe_bm PySem.F.plainAttrs_list PySem.F.slot_list_append PySem.F.type_list_append mt_append (pv 6) (pa_cons (pv 7) pa_nil)))
    (pss_one (ps_set (i := 7) sc.nd rfl (Or.inl rfl) (pe_ix ix_tup (pv 1) (pe_op op_sub (pv 7) pe_int) (fun _ _ => rfl))))))
    (pss_cons (ps_if (PW.pt (pw_or (pt_not (pt_val (pe_call G_law_same (hr.mono (by decide)) (by rfl) g_law_same k_law_same b_law_same .nil pass0 (pa_cons (pv 5) (pa_cons (pv 6) pa_nil))))) (pw_or1 (pt_not (pt_val (pe_call G_law_same (hr.mono (by decide)) (by rfl) g_law_same k_law_same b_law_same .nil pass0 (pa_cons (pe_call G_chain_of (hr.mono (by decide)) (by rfl) g_chain_of k_chain_of b_chain_of .nil pass0 (pa_cons (pv 0) (pa_cons (pv 1) (pa_cons (pv 4) pa_nil)))) (pa_cons (pv 6) pa_nil)))))))) (pss_one (ps_ret pe_bl)) pss_nil)
    (pss_cons (ps_setLc (i := 9) (own := [("_law_z", 10)]) rfl sc.nd rfl rfl (sw_true rfl rfl rfl (by decide +kernel)) (pi_tup (pv 5)) (blkOk_by (N := N_law_records_right) (sc := defScope s_law_records_right) (by decide +kernel)) (fun _ _ _ _ _ => pg_name (i := 10) sc.nd rfl (Or.inl rfl)) (fun _ _ _ _ _ => pts_nil) (fun _ _ _ _ _ => (pe_ix (show IxR _ (rIxT K) from ix_tup) (pv 2) (pe_op op_sub (pv 10) pe_int) (fun _ _ => rfl))))
    (pss_one (ps_if (pt_not (pt_val (pe_callB (cr_all rfl) (by rfl) B.n_all (by decide +kernel) (pa_cons (pe_lc (own := [("_law_a", 11), ("_law_b", 12)]) rfl sc.nd (RZ.pi_zipA (by rfl) B.n_zip (pa_cons (pv 9) (pa_cons (pe_slice sl_list (pv 9) (po_some pe_int) po_none) pa_nil))) (blkOk_by (N := N_law_records_right) (sc := defScope s_law_records_right) (by decide +kernel)) (fun _ _ _ _ _ => (show PG _ _ (gTup K 2 _) from pg_tup rfl (pgs_cons (pg_name (i := 11) sc.nd rfl (Or.inl rfl)) (pgs_cons (pg_name (i := 12) sc.nd rfl (Or.inl rfl)) pgs_nil)))) (fun _ _ _ _ _ => pts_nil) (fun _ _ _ _ _ => (pe_cmpR op_lt (pv 11) (pv 12) (nomark _)))) pa_nil)))) (pss_one (ps_ret pe_bl)) pss_nil)))))))))
    (pss_one (ps_ret pe_bl)))), ?_⟩
    refine ⟨.ref c, rfl, c, _, rfl, hT, hPH, by omega, fun r H1 n1 s1 er => ?_⟩
    refine ⟨.ref r, rfl, r, _, rfl, .inl (SqL.of er), _, rfl, by omega, by rw [vn_len, reads_length]; omega, ?_⟩
    have en : (((vn (reads (higher l hs))).length : Nat) : Int).toNat = l.length + 1 := by rw [vn_len, reads_length, hPl]; omega
    rw [en]
    refine for_range (lo := 0) (n := l.length + 1) (fun i σ H' => ∃ y4 y5 y6 y7 y8 y9 y10 y11 y12, σ = [some (.ref a), some (.ref c), some (.ref d), some (.ref r), y4, y5, y6, y7, y8, y9, y10, y11, y12] ∧ Same H H' ∧ H' r = some (.lst (vn (reads (higher l hs)))))
      ⟨none, none, none, none, none, none, none, none, none, rfl, s1, er⟩ (fun v σ H' hv q => ?_) (fun σ H' q => ?_)
    · obtain ⟨y4, y5, y6, y7, y8, y9, y10, y11, y12, rfl, sm, hr'⟩ := q
      have ez : (0 : Int) + (v : Int) = (v : Int) := by omega
      rw [ez]
      have chl := chain_len hPH v (by omega)
      have chs := chain_short hPH v
      refine ⟨.ref a, rfl, .ref d, rfl, .int (v : Int), rfl, a, d, l, hs, v, rfl, sm.t hS, sm.t hD, hH, hX, by omega, hl, fun t H2 n2 s2 et => ?_⟩
      have hr2 := s2 _ _ hr'
      have s2 := sm.trans s2
      refine ⟨Nat.zero_le _, fun p np => ?_⟩
      have n0 := s2.free np
      have pt : t ≠ p := ne_of_none et np
      have pr : r ≠ p := ne_of_none hr2 np
      have erd : (reads (higher l hs))[v]? = some (rd (higher l hs) v) := by
        unfold rd
        exact getD_some (by rw [reads_length]; omega)
      refine ⟨.int (v : Int), rfl, .ref r, rfl, .int (v : Int), rfl, r, _, _, _, rfl, rfl, SqL.of (by rw [upd_ne pr]; exact hr2), nat_ix erd, _, rfl, by omega, by omega, ?_⟩
      have en2 : (((rd (higher l hs) v : Nat)) : Int).toNat = (chain (higher l hs) v).length := by rw [chl]; omega
      rw [en2]
      refine for_range (lo := 0) (n := (chain (higher l hs) v).length) (fun m σ H3 => ∃ y8, σ = [some (.ref a), some (.ref c), some (.ref d), some (.ref r), some (.int (v : Int)), some (.ref t), some (.ref p), some (.int (stepK (higher l hs) m v : Int)), y8, y9, y10, y11, y12] ∧
          Same H H3 ∧ H3 r = some (.lst (vn (reads (higher l hs)))) ∧ H3 t = some (.tup (vn (chain (higher l hs) v))) ∧ H3 p = some (.lst (vn ((chain (higher l hs) v).take m))))
        ⟨y8, rfl, s2.trans (Same.new np), by rw [upd_ne pr]; exact hr2, by rw [upd_ne pt]; exact et, upd_same⟩ (fun m σ H3 hm q => ?_) (fun σ H3 q => ?_)
      · obtain ⟨y8, rfl, s3, hr3, ht3, hp3⟩ := q
        have hat := chain_at hPH v m hm
        have hmem := chain_mem hPH v _ (List.mem_of_getElem? hat)
        refine ⟨.ref p, rfl, .inl ⟨rfl, _, SqL.of hp3⟩, .int (stepK (higher l hs) m v : Int), rfl, p, _, _, rfl, rfl, hp3, ?_, ?_⟩
        · rw [vn_len, List.length_take]; exact sizeLt (by omega)
        · have s4 := Same.mut (o := .lst (vn ((chain (higher l hs) v).take m) ++ [.int (stepK (higher l hs) m v : Int)])) s3 n0
          refine ⟨.ref c, rfl, .int (stepK (higher l hs) m v : Int), rfl, _, _, rfl, rfl, c, _, _, _, rfl, rfl, s4.t hT, par_ix hmem.1 (by omega), _, rfl, s4, by rw [upd_ne pr]; exact hr3, by rw [upd_ne pt]; exact ht3, ?_⟩
          rw [upd_same, vn_snoc, take_snoc hat]
      · obtain ⟨y8, rfl, s3, hr3, ht3, hp3⟩ := q
        rw [List.take_length] at hp3
        refine ⟨.ref t, rfl, .ref p, rfl, t, p, _, rfl, SqT.of ht3, .inl (SqL.of hp3), fun H4 s4 => ⟨true, rfl, iteF ?_⟩⟩
        have hr4 := s4 _ _ hr3
        have ht4 := s4 _ _ ht3
        have hp4 := s4 _ _ hp3
        have s4 := s3.trans s4
        refine ⟨.ref a, rfl, .ref c, rfl, .int (v : Int), rfl, a, c, l, _, v, rfl, s4.t hS, s4.t hT, hH, hPB, by omega, hl, fun t2 H5 n5 s5 et2 => ?_⟩
        have hr5 := s5 _ _ hr4
        have ht5 := s5 _ _ ht4
        have hp5 := s5 _ _ hp4
        have s5 := s4.trans s5
        refine ⟨.ref p, rfl, t2, p, _, rfl, SqT.of et2, .inl (SqL.of hp5), fun H6 s6 => ⟨true, rfl, iteF ?_⟩⟩
        have hr6 := s6 _ _ hr5
        have ht6 := s6 _ _ ht5
        have s6 := s5.trans s6
        -- the heights rise
        refine ⟨.ref t, rfl, t, rfl, ⟨_, SqT.of ht6⟩, fun Dl nD => ?_⟩
        refine lc_it (walk_tup (K := K) (a := t) (xs := vn (chain (higher l hs) v))) (fun i H' => Same H6 H' ∧ H' Dl = some (.lst (vn (((chain (higher l hs) v).take i).map (par hs))))) ⟨Same.new nD, upd_same⟩
          (fun i H' _ z => z.1.t (SqT.of ht6)) (fun i x H7 H'' hi z y => ?_) (fun H7 z => ?_)
        · obtain ⟨rfl, hx⟩ := y
          obtain ⟨y, hy, rfl⟩ := vn_of hx
          have ym := chain_mem hPH v _ (List.mem_of_getElem? hy)
          refine ⟨rfl, .ref d, rfl, .int (y : Int), rfl, _, _, rfl, rfl, d, _, _, .int (par hs y : Int), rfl, rfl, (s6.trans z.1).t hD, par_ix ym.1 (by omega), _, z.2, ?_, Same.mut z.1 nD, ?_⟩
          · rw [vn_len, List.length_map, List.length_take]
            exact sizeLt (by omega)
          · rw [upd_same, take_snoc hy, List.map_append, vn_app]
            rfl
        · rw [vn_len, List.take_length] at z
          obtain ⟨s7, hD7⟩ := z
          have hr7 := s7 _ _ hr6
          have s7 := s6.trans s7
          have rise := chain_rise hH (hs := hs) v (by omega)
          generalize htl : (chain (higher l hs) v).map (par hs) = tall at hD7 rise
          have tl : tall.length ≤ 40 := by rw [← htl, List.length_map]; omega
          refine ⟨.ref Dl, rfl, .ref Dl, rfl, 1, rfl, Dl, _, rfl, SqL.of hD7, fun q nq => ?_⟩
          rw [cut1, vn_drop]
          have s8 := s7.trans (Same.new (o := .lst (vn (tall.drop 1))) nq)
          have hD8 := Same.new (o := .lst (vn (tall.drop 1))) nq _ _ hD7
          have hr8 := Same.new (o := .lst (vn (tall.drop 1))) nq _ _ hr7
          have hq8 : (upd H7 q (.lst (vn (tall.drop 1)))) q = some (.lst (vn (tall.drop 1))) := upd_same
          generalize upd H7 q (.lst (vn (tall.drop 1))) = H8 at s8 hD8 hr8 hq8
          refine ⟨Dl, q, _, _, rfl, .inl ⟨SqL.of hD8, SqL.of hq8, fun D2 nD2 => ?_⟩⟩
          refine lc_it (walk_zip (K := K) (a := Dl) (b := q) (xs := vn tall) (ys := vn (tall.drop 1)) (n := tall.length - 1) (by rw [vn_len, vn_len, List.length_drop]; omega)) (fun i H' => Same H8 H' ∧ H' D2 = some (.lst ((tru i).map V.bl))) ⟨Same.new nD2, upd_same⟩
            (fun i H' _ z => ⟨z.1.seq (SqL.of hD8), z.1.seq (SqL.of hq8)⟩) (fun i x H9 H'' hi z y => ?_) (fun H9 z => ?_)
          · obtain ⟨T, u1, u2, rfl, nT, rfl, e1, e2⟩ := y
            obtain ⟨x, hx, rfl⟩ := vn_of e1
            obtain ⟨y, hy, rfl⟩ := vn_of e2
            rw [List.getElem?_drop, Nat.add_comm] at hy
            have hxy := rise i x y hx hy
            have s9 := z.1.trans (Same.new (o := .tup [.int (x : Int), .int (y : Int)]) nT)
            have hD9 := Same.new (o := .tup [.int (x : Int), .int (y : Int)]) nT _ _ z.2
            refine ⟨T, _, rfl, SqT.of upd_same, rfl, _, _, rfl, _, _, rfl, rfl, rfl, .int (x : Int), rfl, .int (y : Int), rfl, _, _, rfl, rfl, _, hD9, sizeLt (by rw [tru_len]; omega), Same.mut s9 nD2, ?_⟩
            rw [upd_same, tru_next]
            exact congrArg (fun z => some (HO.lst ((tru i).map V.bl ++ [z]))) (blT (show (x : Int) < (y : Int) by omega))
          · refine ⟨D2, _, rfl, SqL.of z.2, true, congrArg V.bl (tru_all _), iteF ?_⟩
            exact ⟨_, _, _, _, _, _, _, _, _, rfl, s8.trans z.1, z.1 _ _ hr8⟩
    · obtain ⟨y4, y5, y6, y7, y8, y9, y10, y11, y12, rfl, sm, hr'⟩ := q
      exact k _ sm
/-- _law_by_heights(history, elders, heights, more) -/
def spBH (K : PySem.W.Frag) : Sp := fun vs H Q _ => ∃ (a e c : Addr) (h hs : List Nat) (rs : List Addr) (m : Nat), vs = [.ref a, .ref e, .ref c, .int (m : Int)] ∧ SqT K H a (vn h) ∧ IsE H e h rs ∧ SqT K H c (vn hs) ∧ Hist h ∧ Hts h hs ∧ (∀ x ∈ hs, x ≤ 1000) ∧ h.length ≤ 40 ∧ RetV (.bl true) H Q
theorem wide_mono (m a b : Nat) : a < b ↔ a * a * 7 + m < b * b * 7 + m := by
  constructor
  · intro h
    have := Nat.mul_lt_mul'' h h
    omega
  · intro h
    rcases Nat.lt_or_ge a b with c | c
    · exact c
    · have := Nat.mul_le_mul c c
      omega
theorem ok_law_by_heights (B : Bl mg) (D : Dn K mg "_law_by_heights" s_law_by_heights ["_law_history_here", "_law_elders_here", "_law_heights_here", "_law_more"]) (C1 : Ok P w K mg base "bases_by" ["history", "heights"] 4 (spBy K)) (C2 : Ok P w K mg base "_law_same" ["_law_told", "_law_due"] 1 (spSame K))
    (C3 : Ok P w K mg base "_law_higher" ["_law_heights_here", "_law_elders_here"] 1 (spHigher K)) (C4 : Ok P w K mg base "is_plan" ["history", "thing"] 6 (spPlan K)) (C5 : Ok P w K mg base "heights_of" ["history", "bases"] 8 (spHof K)) (C6 : Ok P w K mg base "_law_records_right" ["_law_history_here", "_law_plan", "_law_heights_here"] 8 (spRR K)) :
    Ok P w K mg base "_law_by_heights" ["_law_history_here", "_law_elders_here", "_law_heights_here", "_law_more"] 9 (spBH K) := by
  obtain ⟨f, fd, F, g, b⟩ := D.ex
  obtain ⟨f_bases_by, fd_bases_by, g_bases_by, k_bases_by, b_bases_by, G_bases_by⟩ := C1.ex
  obtain ⟨f_law_same, fd_law_same, g_law_same, k_law_same, b_law_same, G_law_same⟩ := C2.ex
  obtain ⟨f_law_higher, fd_law_higher, g_law_higher, k_law_higher, b_law_higher, G_law_higher⟩ := C3.ex
  obtain ⟨f_is_plan, fd_is_plan, g_is_plan, k_is_plan, b_is_plan, G_is_plan⟩ := C4.ex
  obtain ⟨f_heights_of, fd_heights_of, g_heights_of, k_heights_of, b_heights_of, G_heights_of⟩ := C5.ex
  obtain ⟨f_law_records_right, fd_law_records_right, g_law_records_right, k_law_records_right, b_law_records_right, G_law_records_right⟩ := C6.ex
  have sc := sc_law_by_heights
  refine ⟨f, fd, g, F.kp, b, F.ok sc (fun vs H Q E h => ?_) (fun cdv A outer s H vs Q E hr h => ?_)⟩
  · obtain ⟨a, e, c, l, hs, rs, m, rfl, _⟩ := h
    rfl
  · obtain ⟨a, e, c, l, hs, rs, m, rfl, hS, hE, hT, hH, hX, hb, hl, k⟩ := h
    have hxl := hX.1
    have hPB := higher_bas hH hs
    have hPH := hPB.hist hH
    have hPl := higher_len l hs
    have hPn := higher_none hH hs
    have hR : Hts l (hs.map fun x => x + m) := ⟨by rw [List.length_map, hxl], fun x hx => by
      obtain ⟨y, hy, e⟩ := List.mem_map.mp hx
      have := hX.2 y hy
      omega⟩
    have hW : Hts l (hs.map fun x => x * x * 7 + m) := ⟨by rw [List.length_map, hxl], fun x hx => by
      obtain ⟨y, hy, e⟩ := List.mem_map.mp hx
      have h1 := hX.2 y hy
      have h2 := Nat.mul_le_mul h1 h1
      omega⟩
    have eR : higher l (hs.map fun x => x + m) = higher l hs := higher_mono hH hxl _ fun x y => by omega
    have eW : higher l (hs.map fun x => x * x * 7 + m) = higher l hs := higher_mono hH hxl _ (wide_mono m)
    refine ⟨_, (pss_cons (ps_set (i := 4) sc.nd rfl (Or.inl rfl) (pe_call G_bases_by (hr.mono (by decide)) (by rfl) g_bases_by k_bases_by b_bases_by .nil pass0 (pa_cons (pv 0) (pa_cons (pv 2) pa_nil))))
    (pss_cons (ps_if (PW.pt (pw_or (pt_not (pt_val (pe_call G_law_same (hr.mono (by decide)) (by rfl) g_law_same k_law_same b_law_same .nil pass0 (pa_cons (pv 4) (pa_cons (pe_call G_law_higher (hr.mono (by decide)) (by rfl) g_law_higher k_law_higher b_law_higher .nil pass0 (pa_cons (pv 2) (pa_cons (pv 1) pa_nil))) pa_nil))))) (pw_or1 (pt_cmpR op_isnot_bl (pe_call G_is_plan (hr.mono (by decide)) (by rfl) g_is_plan k_is_plan b_is_plan .nil pass0 (pa_cons (pv 0) (pa_cons (pv 4) pa_nil))) pe_bl (nomark _))))) (pss_one (ps_ret pe_bl)) pss_nil)
    (pss_cons (ps_set (i := 5) sc.nd rfl (Or.inl rfl) (pe_callTy call_tuple_of (by rfl) B.n_tuple (by decide +kernel) (pa_cons (pe_lc (own := [("_law_h", 7)]) rfl sc.nd (pi_tup (pv 2)) (blkOk_by (N := N_law_by_heights) (sc := defScope s_law_by_heights) (by decide +kernel)) (fun _ _ _ _ _ => pg_name (i := 7) sc.nd rfl (Or.inl rfl)) (fun _ _ _ _ _ => pts_nil) (fun _ _ _ _ _ => (pe_op op_add (pv 7) (pv 3)))) pa_nil)))
    (pss_cons (ps_set (i := 6) sc.nd rfl (Or.inl rfl) (pe_callTy call_tuple_of (by rfl) B.n_tuple (by decide +kernel) (pa_cons (pe_lc (own := [("_law_h", 7)]) rfl sc.nd (pi_tup (pv 2)) (blkOk_by (N := N_law_by_heights) (sc := defScope s_law_by_heights) (by decide +kernel)) (fun _ _ _ _ _ => pg_name (i := 7) sc.nd rfl (Or.inl rfl)) (fun _ _ _ _ _ => pts_nil) (fun _ _ _ _ _ => (pe_op op_add (pe_op op_mul (pe_op op_mul (pv 7) (pv 7)) pe_int) (pv 3)))) pa_nil)))
    (pss_cons (ps_if (PW.pt (pw_or (pt_cmpR (op_neD hr.units) (pe_call G_bases_by (hr.mono (by decide)) (by rfl) g_bases_by k_bases_by b_bases_by .nil pass0 (pa_cons (pv 0) (pa_cons (pv 5) pa_nil))) (pv 4) (nomark _)) (pw_or1 (pt_cmpR (op_neD hr.units) (pe_call G_bases_by (hr.mono (by decide)) (by rfl) g_bases_by k_bases_by b_bases_by .nil pass0 (pa_cons (pv 0) (pa_cons (pv 6) pa_nil))) (pv 4) (nomark _))))) (pss_one (ps_ret pe_bl)) pss_nil)
    (pss_cons (ps_if (pt_cmpR (op_neD hr.units) (pe_call G_bases_by (hr.mono (by decide)) (by rfl) g_bases_by k_bases_by b_bases_by .nil pass0 (pa_cons (pv 0) (pa_cons (pe_call G_heights_of (hr.mono (by decide)) (by rfl) g_heights_of k_heights_of b_heights_of .nil pass0 (pa_cons (pv 0) (pa_cons (pv 4) pa_nil))) pa_nil))) (pv 4) (nomark _)) (pss_one (ps_ret pe_bl)) pss_nil)
    (pss_one (ps_ret (pe_call G_law_records_right (hr.mono (by decide)) (by rfl) g_law_records_right k_law_records_right b_law_records_right .nil pass0 (pa_cons (pv 0) (pa_cons (pv 4) (pa_cons (pv 2) pa_nil)))))))))))), ?_⟩
    refine ⟨.ref a, rfl, .ref c, rfl, a, c, l, hs, rfl, hS, hT, hH, hX, hl, fun p H1 n1 s1 pp => ?_⟩
    refine ⟨.ref p, rfl, .ref c, rfl, .ref e, rfl, c, e, l, hs, rs, rfl, s1.t hT, hE.same s1, hH, hxl, hl, fun p2 H2 n2 s2 pp2 => ?_⟩
    have pp := s2 _ _ pp
    have s2 := s1.trans s2
    refine ⟨p, p2, _, rfl, SqT.of pp, .inr (SqT.of pp2), fun H3 s3 => ⟨true, rfl, iteF ?_⟩⟩
    have pp := s3 _ _ pp
    have s3 := s2.trans s3
    refine ⟨.ref a, rfl, .ref p, rfl, a, p, l, _, rfl, s3.t hS, SqT.of pp, hH, hPB, hl, fun H4 s4 => ?_⟩
    rw [decide_eq_true hPn]
    have pp := s4 _ _ pp
    have s4 := s3.trans s4
    refine ⟨true, true, rfl, rfl, false, rfl, iteF ?_⟩
    -- raised alike
    refine ⟨.ref c, rfl, c, rfl, ⟨_, s4.t hT⟩, fun Dl nD => ?_⟩
    refine lc_it (walk_tup (K := K) (a := c) (xs := vn hs)) (fun i H' => Same H4 H' ∧ H' Dl = some (.lst (vn ((hs.take i).map fun x => x + m)))) ⟨Same.new nD, upd_same⟩
      (fun i H' _ z => (s4.trans z.1).t hT) (fun i x H7 H'' hi z y => ?_) (fun H5 z => ?_)
    · obtain ⟨rfl, hx⟩ := y
      obtain ⟨y, hy, rfl⟩ := vn_of hx
      refine ⟨rfl, .int (y : Int), rfl, .int (m : Int), rfl, _, _, rfl, rfl, _, z.2, ?_, Same.mut z.1 nD, ?_⟩
      · rw [vn_len, List.length_map, List.length_take]
        exact sizeLt (by omega)
      · rw [upd_same, take_snoc hy, List.map_append, vn_app]
        rfl
    rw [vn_len, List.take_length] at z
    obtain ⟨s5, hD5⟩ := z
    have pp := s5 _ _ pp
    have s5 := s4.trans s5
    refine ⟨Dl, _, rfl, .inl ⟨SqL.of hD5, fun u nu => ?_⟩⟩
    have s6 := s5.trans (Same.new (o := .tup (vn (hs.map fun x => x + m))) nu)
    have pp := Same.new (o := .tup (vn (hs.map fun x => x + m))) nu _ _ pp
    have uu : (upd H5 u (.tup (vn (hs.map fun x => x + m)))) u = some (.tup (vn (hs.map fun x => x + m))) := upd_same
    generalize upd H5 u (.tup (vn (hs.map fun x => x + m))) = H6 at s6 pp uu
    -- stretched
    refine ⟨.ref c, rfl, c, rfl, ⟨_, s6.t hT⟩, fun D2 nD2 => ?_⟩
    refine lc_it (walk_tup (K := K) (a := c) (xs := vn hs)) (fun i H' => Same H6 H' ∧ H' D2 = some (.lst (vn ((hs.take i).map fun x => x * x * 7 + m)))) ⟨Same.new nD2, upd_same⟩
      (fun i H' _ z => (s6.trans z.1).t hT) (fun i x H7 H'' hi z y => ?_) (fun H7 z => ?_)
    · obtain ⟨rfl, hx⟩ := y
      obtain ⟨y, hy, rfl⟩ := vn_of hx
      have yb := hb y (List.mem_of_getElem? hy)
      have yy := Nat.mul_le_mul yb yb
      have ec : ((y * y * 7 + m : Nat) : Int) = (y : Int) * (y : Int) * 7 + (m : Int) := by rw [Int.natCast_add, Int.natCast_mul, Int.natCast_mul]; rfl
      have ec2 : ((y * y : Nat) : Int) = (y : Int) * (y : Int) := Int.natCast_mul y y
      refine ⟨rfl, .int (y : Int), rfl, .int (y : Int), rfl, _, _, rfl, rfl, .inl ⟨by omega, by omega⟩, _, _, rfl, rfl, .inl ⟨by rw [← ec2]; omega, by rw [← ec2]; omega⟩, .int (m : Int), rfl, _, _, rfl, rfl, _, z.2, ?_, Same.mut z.1 nD2, ?_⟩
      · rw [vn_len, List.length_map, List.length_take]
        exact sizeLt (by omega)
      · rw [upd_same, take_snoc hy, List.map_append, vn_app]
        exact congrArg (fun z => some (HO.lst (vn ((hs.take i).map fun x => x * x * 7 + m) ++ [V.int z]))) ec.symm
    rw [vn_len, List.take_length] at z
    obtain ⟨s7, hD7⟩ := z
    have pp := s7 _ _ pp
    have uu := s7 _ _ uu
    have s7 := s6.trans s7
    refine ⟨D2, _, rfl, .inl ⟨SqL.of hD7, fun t nt => ?_⟩⟩
    have s8 := s7.trans (Same.new (o := .tup (vn (hs.map fun x => x * x * 7 + m))) nt)
    have pp := Same.new (o := .tup (vn (hs.map fun x => x * x * 7 + m))) nt _ _ pp
    have uu := Same.new (o := .tup (vn (hs.map fun x => x * x * 7 + m))) nt _ _ uu
    have tt : (upd H7 t (.tup (vn (hs.map fun x => x * x * 7 + m)))) t = some (.tup (vn (hs.map fun x => x * x * 7 + m))) := upd_same
    generalize upd H7 t (.tup (vn (hs.map fun x => x * x * 7 + m))) = H8 at s8 pp uu tt
    refine ⟨.ref a, rfl, .ref u, rfl, a, u, l, _, rfl, s8.t hS, SqT.of uu, hH, hR, hl, fun q H9 n9 s9 qq => ?_⟩
    rw [eR] at qq
    have pp := s9 _ _ pp
    have tt := s9 _ _ tt
    have s9 := s8.trans s9
    refine ⟨.ref p, rfl, _, _, dp_tup (SqT.of qq), dp_tup (SqT.of pp), shaped_td _, shaped_td _, false, by rw [eqv_td, decide_eq_true rfl]; rfl, iteF ?_⟩
    refine ⟨.ref a, rfl, .ref t, rfl, a, t, l, _, rfl, s9.t hS, SqT.of tt, hH, hW, hl, fun q H10 n10 s10 qq => ?_⟩
    rw [eW] at qq
    have pp := s10 _ _ pp
    have s10 := s9.trans s10
    refine ⟨.ref p, rfl, _, _, dp_tup (SqT.of qq), dp_tup (SqT.of pp), shaped_td _, shaped_td _, false, by rw [eqv_td, decide_eq_true rfl]; rfl, iteF ?_⟩
    refine ⟨.ref a, rfl, .ref a, rfl, .ref p, rfl, a, p, l, _, rfl, s10.t hS, SqT.of pp, hH, hPB, hl, fun x H11 n11 s11 xx => ?_⟩
    have pp := s11 _ _ pp
    have s11 := s10.trans s11
    refine ⟨a, x, l, _, rfl, s11.t hS, SqT.of xx, hH, htsOf_hts hPB, hl, fun q H12 n12 s12 qq => ?_⟩
    rw [higher_back hH hs] at qq
    have pp := s12 _ _ pp
    have s12 := s11.trans s12
    refine ⟨.ref p, rfl, _, _, dp_tup (SqT.of qq), dp_tup (SqT.of pp), shaped_td _, shaped_td _, false, by rw [eqv_td, decide_eq_true rfl]; rfl, iteF ?_⟩
    exact ⟨.ref a, rfl, .ref p, rfl, .ref c, rfl, a, p, c, l, hs, rfl, s12.t hS, SqT.of pp, s12.t hT, hH, hX, hl, fun H13 s13 => k _ (s12.trans s13)⟩
end
end K58

/-! K58S: set(xs) of a list of any length of tuples of ints of which fewer than 63 are unlike; sorted of at most one thing, of a set of at most one thing. -/
namespace K58
open PySem PySem.Spec PyProof.Rows L2
/-! ### pigeons -/
theorem nodup_fits {α : Type} [DecidableEq α] : ∀ (l D : List α), l.Nodup → (∀ x ∈ l, x ∈ D) → l.length ≤ D.length
  | [], D, _, _ => Nat.zero_le _
  | x :: l, D, hn, hs => by
    have ⟨h1, h2⟩ := List.nodup_cons.mp hn
    have hx : x ∈ D := hs x List.mem_cons_self
    have ih := nodup_fits l (D.erase x) h2 fun y hy => by
      have hne : y ≠ x := fun e => h1 (by rw [← e]; exact hy)
      exact (List.mem_erase_of_ne hne).mpr (hs y (List.mem_cons_of_mem _ hy))
    rw [List.length_erase_of_mem hx] at ih
    have : 0 < D.length := List.length_pos_of_mem hx
    rw [List.length_cons]
    omega
/-- what the set holds behind the first i items of tt -/
structure Has (tt : List (Addr × List Int)) (i : Nat) (L : List (Addr × List Int)) : Prop where
  from_ : ∀ p ∈ L, p ∈ tt.take i
  every : ∀ p ∈ tt.take i, p.2 ∈ L.map (·.2)
theorem Has.start (tt : List (Addr × List Int)) : Has tt 0 [] := ⟨fun p q => (by cases q), fun p q => (by simp at q)⟩
theorem Has.again {tt L : List (Addr × List Int)} {i : Nat} {x : Addr × List Int} (g : Has tt i L) (e : tt[i]? = some x) (m : x.2 ∈ L.map (·.2)) : Has tt (i + 1) L :=
  ⟨fun p q => by rw [take_snoc e]; exact List.mem_append_left _ (g.from_ p q), fun p q => by
    rw [take_snoc e] at q
    rcases List.mem_append.mp q with z | z
    · exact g.every p z
    · rw [List.mem_singleton.mp z]; exact m⟩
theorem Has.grown {tt L M : List (Addr × List Int)} {i : Nat} {x : Addr × List Int} (g : Has tt i L) (e : tt[i]? = some x) (pm : M.Perm (x :: L)) : Has tt (i + 1) M :=
  ⟨fun p q => by
    rw [take_snoc e]
    rcases List.mem_cons.mp (pm.mem_iff.mp q) with z | z
    · rw [z]; exact List.mem_append_right _ (List.mem_singleton.mpr rfl)
    · exact List.mem_append_left _ (g.from_ p z), fun p q => by
    rw [(pm.map (·.2)).mem_iff, List.map_cons]
    rw [take_snoc e] at q
    rcases List.mem_append.mp q with z | z
    · exact List.mem_cons_of_mem _ (g.every p z)
    · rw [List.mem_singleton.mp z]; exact List.mem_cons_self⟩
section
variable {P : Program} {w : World} {A : Around} {E : Value → Shared → Prop} {s : Shared}
theorem few_of {g : Heap} {S : Addr} {L : List (Addr × List Int)} {es : Array (Int × Value)} {ep : Nat} {t : SetTable} {tt : List (Addr × List Int)} {i : Nat} {U : List (List Int)} (R : SetTR P w g S L es ep t) (G : Has tt i L) (hU : ∀ p ∈ tt, p.2 ∈ U) (hu : U.length + 1 < 64) : L.length + 1 < 64 := by
  have h := nodup_fits (L.map (·.2)) U R.nd fun k hk => by
    obtain ⟨p, hp, e⟩ := List.mem_map.mp hk
    rw [← e]
    exact hU p (List.mem_of_mem_take (G.from_ p hp))
  rw [List.length_map] at h
  omega
/-- the loop of set.update over such items -/
theorem update58 {I : Addr} {fp wr : List Addr} {G : Array GenState → Array GenState → Prop} {n : Nat} {Pv : Nat → Value → Prop} {St : Nat → Shared → Prop} {R : Result → Shared → Prop}
    (W : WalksS P w A.in1 I fp wr G n Pv St) (S : Addr) (hSf : S ∉ fp) (tt : List (Addr × List Int)) (U : List (List Int)) (hn : n = tt.length) (hU : ∀ p ∈ tt, p.2 ∈ U) (hfew : U.length + 1 < 64) (hval : ∀ i v, Pv i v → ∃ p, tt[i]? = some p ∧ v = .ref p.1)
    (g0 : Heap) (hk : ∀ p ∈ tt, IsT P w g0 p.2 p.1) (hS0 : g0.get? S = none) (hw0 : ∀ c ∈ wr, g0.get? c = none) (hu : A.in1.units < cLine) (left : Nat) :
    ∀ (i : Nat) (z : Shared), n - i = left → i ≤ n → St i z → (∀ c o, g0.get? c = some o → z.heap.get? c = some o) → (∃ L es ep t, SetTR P w z.heap S L es ep t ∧ Has tt i L) →
      (∀ z' L es ep t, Moved (S :: wr) G z z' → SetTR P w z'.heap S L es ep t → Has tt n L → (∀ c o, g0.get? c = some o → z'.heap.get? c = some o) → R (.ok (.ret .none)) z') →
      codeAny (model P w) A (.builtin "set.update.loop" ⟨[.ref S, .ref I], []⟩) R z := by
  have notW : S ∉ wr := fun q => hSf (W.sub _ q)
  have more : ∀ c ∈ wr, c ∈ S :: wr := fun c q => List.mem_cons_of_mem _ q
  have stays : ∀ {z z' : Shared}, Moved wr G z z' → (∀ c o, g0.get? c = some o → z.heap.get? c = some o) → ∀ c o, g0.get? c = some o → z'.heap.get? c = some o := fun hm kp c o e =>
    hm.heap c o (fun q => by rw [hw0 c q] at e; cases e) (kp c o e)
  induction left with
  | zero =>
    intro i z hl hi hst kp ⟨L, es, ep, t, hS, g⟩ hR
    obtain rfl : i = n := by omega
    refine codeAny_builtin F.entry_set_update_loop ?_
    rw [Around.under_plainId F.plain_set_update_loop _]
    show wpAny _ A.in1 (pyNext (.ref I) >>= _) _ _ z
    refine wpAny_bind (W.done z _ _ hst fun z1 hm => ?_)
    show wpAny _ A.in1 (ret Value.none) _ _ z1
    have kp1 := stays hm kp
    have tup1 : ∀ p ∈ L, IsT P w z1.heap p.2 p.1 := fun p q => isT_keep (hk p (List.mem_of_mem_take (g.from_ p q))) kp1
    exact wpAny_pure (hR z1 L es ep t (hm.mono more) (hS.keep (fun o e => hm.heap S o notW e) tup1) g kp1)
  | succ left ih =>
    intro i z hl hi hst kp ⟨L, es, ep, t, hS, g⟩ hR
    have hlt : i < n := by omega
    refine codeAny_builtin F.entry_set_update_loop ?_
    rw [Around.under_plainId F.plain_set_update_loop _]
    show wpAny _ A.in1 (pyNext (.ref I) >>= _) _ _ z
    refine wpAny_bind (W.item i z _ _ hlt hst fun v z1 hP hst1 hm => ?_)
    obtain ⟨p, hp, rfl⟩ := hval i v hP
    have kp1 := stays hm kp
    have hS1 : SetTR P w z1.heap S L es ep t := hS.keep (fun o e => hm.heap S o notW e) fun q hq => isT_keep (hk q (List.mem_of_mem_take (g.from_ q hq))) kp1
    have hx : IsT P w z1.heap p.2 p.1 := isT_keep (hk p (List.mem_of_getElem? hp)) kp1
    show wpAny _ A.in1 (holding [Value.ref p.1] (setAdd S (.ref p.1)) >>= _) _ _ z1
    refine wpAny_bind (wpAny_holding ?_)
    unfold setAdd
    refine wpAny_holding (wpAny_bind (wpAny_pyHash_tuple hu hx ?_))
    refine add_at (s := { z1 with toks := z1.toks + (p.2.length + 1) }) hS1 hx hu (few_of hS1 g hU hfew) fun b g2 L2 es2 ep2 t2 sb hS2 c1 c2 => ?_
    have G2 : Has tt (i + 1) L2 := by
      rcases Classical.em (p.2 ∈ L.map (·.2)) with c | c
      · rw [c1 c]; exact g.again hp c
      · exact g.grown hp (c2 c)
    have kp2 : ∀ c o, g0.get? c = some o → g2.get? c = some o := fun c o e => (sb.2 c (fun q => by rw [q, hS0] at e; cases e)).trans (kp1 c o e)
    refine wpAny_pure ⟨plainId_quiet F.plain_set_update_loop _, ih (i + 1) _ (by omega) hlt (W.frame _ z1 _ _ hst1 (Nat.le_add_right _ _) fun c hc o e => ?_) kp2 ⟨L2, es2, ep2, t2, hS2, G2⟩ fun z3 L3 es3 ep3 t3 hm3 hS3 g3 kp3 => ?_⟩
    · rw [sb.2 c (fun q : c = S => hSf (by rw [← q]; exact hc))]; exact e
    · refine hR z3 L3 es3 ep3 t3 (Moved.trans W.gtrans ((hm.mono more).then_heap (Nat.le_add_right _ _) fun c o hc e => ?_) hm3) hS3 g3 kp3
      rw [sb.2 c (fun q : c = S => hc (by rw [q]; exact List.mem_cons_self))]; exact e
/-- a set just made -/
abbrev newSet (w : World) : Obj := { cls := .type "set", dict := none, data := .set #[] 0 (.fresh 0 0 (!w.params.followText "set-order")) }
set_option maxHeartbeats 8000000 in
theorem call_set58 {l : Addr} {items : Array Value} (tt : List (Addr × List Int)) (U : List (List Int)) {Q : Value → Shared → Prop} (hh : A.handled = none) (hl : s.heap.IsList l items) (hit : items.toList = tt.map fun p => Value.ref p.1)
    (hk : ∀ p ∈ tt, IsT P w s.heap p.2 p.1) (hU : ∀ p ∈ tt, p.2 ∈ U) (hfew : U.length + 1 < 64) (hu : A.units + 3 < cLine)
    (fin : ∀ (g : Heap) (tk : Nat) L es ep t, SetTR P w g s.heap.objs.size L es ep t → Has tt tt.length L → (∀ c o, s.heap.get? c = some o → g.get? c = some o) → Q (.ref s.heap.objs.size) { s with heap := g, toks := tk }) :
    wpAny (model P w) A (call (.type "set") [.ref l]) Q E s := by
  have isz : items.size = tt.length := by
    have q := congrArg List.length hit
    rw [Array.length_toList, List.length_map] at q
    exact q
  have void : ∀ c, s.heap.objs.size ≤ c → s.heap.get? c = none := fun c hc => by
    cases q : s.heap.get? c with
    | none => rfl
    | some o => exact absurd (Nat.lt_of_lt_of_le (Heap.lt_size q) hc) (Nat.lt_irrefl _)
  have vals : ∀ (i : Nat) (v : Value), items[i]? = some v → ∃ p, tt[i]? = some p ∧ v = .ref p.1 := fun i v hv => by
    have q : items.toList[i]? = some v := by rw [Array.getElem?_toList]; exact hv
    rw [hit, List.getElem?_map] at q
    cases hq : tt[i]? with
    | none => rw [hq] at q; cases q
    | some p =>
      rw [hq] at q
      exact ⟨p, rfl, (Option.some.inj q).symm⟩
  obtain ⟨mc, mt, hmro⟩ := F.called_set.mro
  have hmade := F.called_set.made
  have hsub := F.called_set.sub
  have nt := F.called_set.notType
  have cc := F.called_set.canCreate
  have hct := F.typeCall_set_1 (.ref l)
  refine wpAny_call (codeAny_of_tree ?_)
  show wpAny _ _ (callAny (.type "set") _) _ _ _
  refine wpAny_pure ⟨Code.quiet_builtin _ (by decide +kernel), codeAny_builtin F.entry_type_call ?_⟩
  rw [Around.under_plain (weight_type_call_type "set" [.ref l] []) rfl]
  repeat (any_goals (first | assumption | wp_step))
  refine codeAny_mono (code_set_led1 (.ref l) (E := E) (Q₁ := fun ob z1 => ob = .ref s.heap.objs.size ∧ z1 = { s with heap := s.heap.push (newSet w) }) ⟨rfl, rfl⟩) fun r z1 hr => ?_
  cases r with
  | error e => exact hr
  | ok fl =>
    cases fl with
    | ret ob =>
      obtain ⟨rfl, rfl⟩ := hr
      have hS : (s.heap.push (newSet w)).get? s.heap.objs.size = some (newSet w) := Heap.get?_push_size _ rfl
      have hT : Shared.TypeIs { s with heap := s.heap.push (newSet w) } (.ref s.heap.objs.size) "set" := ⟨_, hS, rfl⟩
      have ini := F.called_set.init.lookup
      have bnd := F.called_set.init.bind (.ref s.heap.objs.size)
      repeat (any_goals (first | assumption | wp_step))
      refine codeAny_mono (codeAny_call_builtin (R := wants (fun r z2 => r = .none ∧ ∃ g tk L es ep t, z2 = { s with heap := g, toks := tk } ∧ SetTR P w g s.heap.objs.size L es ep t ∧ Has tt tt.length L ∧
          (∀ c o, s.heap.get? c = some o → g.get? c = some o)) E) F.called_set.init.plain F.entry_set_init (check_set_init_1 hT ?_)) fun r2 z2 hr2 => ?_
      · obtain ⟨ol, hol, hcl, nl, hdl⟩ := hl
        obtain ⟨ocls, odict, odata, oslots⟩ := ol
        simp only at hcl hdl
        subst hcl; subst hdl
        have hol1 : (s.heap.push (newSet w)).get? l = some { cls := .type "list", dict := odict, data := .seq items nl, slots := oslots } := Heap.get?_push_of_some _ hol
        have lt1 : l < s.heap.objs.size := Heap.lt_size hol
        have sub1 := F.sub_list_set
        have sub2 := F.sub_list_frozenset
        have ne1 : (Value.type "list" == Value.type "dict") = false := by decide
        have hl1 : (s.heap.push (newSet w)).IsList l items := ⟨_, hol1, rfl, nl, rfl⟩
        unfold Builtin.«set.__init__» noKeywords Builtin.Frozenset.updateFrom
        generalize hPI : pyIter = PI
        wp_walk
        subst hPI
        refine wpAny_pyIter_list hl1 (wpAny_bind (wpAny_runValue ?_))
        have hh3 : A.in1.in1.in1.handled = none := by simp [hh]
        have z1 : (s.heap.push (newSet w)).objs.size = s.heap.objs.size + 1 := Heap.size_push ..
        have neI : l ≠ (s.heap.push (newSet w)).objs.size := by rw [z1]; exact Nat.ne_of_lt (Nat.lt_succ_of_lt lt1)
        have notIn : s.heap.objs.size ∉ [(s.heap.push (newSet w)).objs.size, l] := by
          rw [z1]
          simp only [List.mem_cons, List.not_mem_nil, or_false, not_or]
          exact ⟨Nat.ne_of_lt (Nat.lt_succ_self _), Nat.ne_of_gt lt1⟩
        refine update58 ((Walks.list hh3 _ l neI items).toS) s.heap.objs.size notIn tt U isz hU hfew vals s.heap hk (void _ (Nat.le_refl _)) (fun c hc => void c (by rw [List.mem_singleton.mp hc, z1]; exact Nat.le_succ _)) hu
          (items.size - 0) 0 _ (by omega) (Nat.zero_le _) ⟨⟨_, Heap.get?_push_size _ rfl, rfl, rfl⟩, (hl1.push _)⟩ (fun c o e => Heap.get?_push_of_some _ (Heap.get?_push_of_some _ e)) ?hS0 ?hR
        case hS0 => exact ⟨[], #[], 0, _, setTR_fresh (Heap.get?_push_of_some _ hS), Has.start tt⟩
        case hR =>
          intro z3 L es ep t hm hS3 g3 kp
          obtain ⟨g, gs, dr, tk, sys⟩ := z3
          have eg : gs = s.gens := hm.gens
          have ed : dr = s.drawn := hm.drawn
          have eo : sys = s.os := hm.os
          subst eg; subst ed; subst eo
          show wpAny _ _ _ _ _ _
          refine wpAny_pure ?_
          show wpAny _ _ (ret Value.none) _ _ _
          rw [isz] at g3
          exact wpAny_pure ⟨rfl, g, tk, L, es, ep, t, rfl, hS3, g3, kp⟩
      · cases r2 with
        | error e => exact hr2
        | ok f2 =>
          cases f2 with
          | ret r =>
            obtain ⟨rfl, g, tk, L, es, ep, t, rfl, hS3, g3, kp⟩ := hr2
            repeat (any_goals (first | assumption | wp_step))
            exact fin _ _ _ _ _ _ hS3 g3 kp
          | _ => exact hr2.elim
    | _ => exact hr.elim
end
section
variable {X : Cx}
/-- set(xs), xs a list of tuples of ints, fewer than 63 unlike ones -/
def rSet58 (K : PySem.W.Frag) (P : Program) (w : World) : List V → Hp → VK → Prop := fun xs H Q => ∃ (l : Addr) (tt : List (Addr × List Int)) (U : List (List Int)), xs = [V.ref l] ∧ SqL K H l (tt.map fun p => V.ref p.1) ∧ (∀ p ∈ tt, SqT K H p.1 (p.2.map V.int)) ∧
  (∀ p ∈ tt, p.2 ∈ U) ∧ U.length + 1 < 64 ∧ ∀ a L, H a = none → (∀ p ∈ L, p ∈ tt) → (∀ p ∈ tt, p.2 ∈ L.map (·.2)) → (L.map (·.2)).Nodup → Q (.ref a) (upd H a (SetTO P w a L))
theorem cr_set58 (hc : X.calm = true) (hu : X.A.units + 64 < cLine) : CallR X (.type "set") (rSet58 X.K X.prog X.w) := by
  intro pins z σ H xs us Q I r h
  obtain ⟨l, tt, U, rfl, hl, hk, hU, hf, q⟩ := h
  rw [Vals.ref1 r]
  obtain ⟨its, rv, pl, hz⟩ := I.list hl
  refine call_set58 (P := X.prog) (w := X.w) tt U (I.ok.hd hc) pl.isList (by simpa using refs_of_vals rv) (fun p hp => Inv.isT I (hk p hp)) hU hf (by omega) fun g tk L es ep t R G kp => ?_
  have hn : H z.heap.objs.size = none := I.hok.fresh (Nat.le_refl _)
  refine ⟨.ref z.heap.objs.size, _, I.laid (t' := tk) kp (Nat.le_refl _) (setTO_new R.t0), rfl, q _ L hn (fun p hp => List.mem_of_mem_take (G.from_ p hp)) (fun p hp => G.every p (by rw [List.take_length]; exact hp)) R.nd⟩
end
end K58

/-! K58T: sorted of at most one thing; sorted of such a set; both beside the layer's rules. -/
namespace K58
open PySem PySem.Spec PyProof.Rows L2
theorem perm_few {α : Type} {l m : List α} (h : l.Perm m) (hm : m.length ≤ 1) : l = m := by
  match m, hm with
  | [], _ => exact List.Perm.eq_nil h
  | [x], _ => exact List.perm_singleton.mp h
section
variable {P : Program} {w : World} {A : Around} {E : Value → Shared → Prop} {s : Shared}
theorem sort_few {a : Addr} {vs : List Value} {n : Nat} {Q : Value → Shared → Prop} (ho : s.heap.get? a = some (seqObj "list" vs.toArray n)) (hf : vs.length ≤ 1)
    (fin : ∀ out : Array Value, out.toList = vs → Q .none { s with heap := sortedHeap s.heap a vs out }) : wpAny (model P w) A (call (.builtin "list.sort") [.ref a]) Q E s :=
  wpAny_call_entry slot_list_sort ⟨_, ho, rfl⟩ entry_list_sort (SK.plain_sort (r := fun _ => 0) ho (by omega) (fun q => by omega) fun ps out h1 h2 h3 => ⟨_, rfl, fin out (perm_few (TS.out_rank (r := fun _ => 0) h1 h2 h3).1 hf)⟩) (args_list_sort _)
theorem sorted_few {l : Addr} {vs : List Value} {Q : Value → Shared → Prop} (hl : s.heap.IsList l vs.toArray) (hf : vs.length ≤ 1)
    (fin : ∀ out : Array Value, out.toList = vs → Q (.ref (s.heap.objs.size + 1)) { s with heap := sortedAll s.heap vs out }) : wpAny (model P w) A (call (.builtin "sorted") [.ref l]) Q E s := by
  refine Calls.call_function_entry kind_sorted plain_sorted entry_sorted (args_sorted1 _) ?_
  unfold Builtin.«sorted»
  refine wpAny_bind (m := checkCount "sorted" 1 1 _) (wpAny_pure ?_)
  refine wpAny_bind (collect_list hl ?_ (by rw [sizeLine_eq]; omega))
  refine wpAny_bind (wpAny_newList ?_ (by rw [sizeLine_eq]; omega))
  have z1 : ((s.heap.push (seqObj "list" #[] 0)).update s.heap.objs.size (Obj.mapSeq (· ++ vs.toArray))).objs.size = s.heap.objs.size + 1 := by
    rw [Heap.size_update, size_push']
  have ho : (((s.heap.push (seqObj "list" #[] 0)).update s.heap.objs.size (Obj.mapSeq (· ++ vs.toArray))).push (seqObj "list" vs.toArray 0)).get? (s.heap.objs.size + 1) = some (seqObj "list" vs.toArray 0) := by
    rw [← z1]; exact Heap.get?_push_size _ rfl
  show wpAny _ _ _ _ _ { s with heap := ((s.heap.push (seqObj "list" #[] 0)).update s.heap.objs.size (Obj.mapSeq (· ++ vs.toArray))).push (seqObj "list" vs.toArray 0) }
  rw [z1]
  exact wpAny_bind (wpAny_holding (sort_few ho hf fun out eo => wpAny_pure ⟨_, rfl, fin out eo⟩))
theorem sorted_set_few {a : Addr} {L : List (Addr × List Int)} {es : Array (Int × Value)} {ep : Nat} {t : SetTable} {Q : Value → Shared → Prop} (R : SetTR P w s.heap a L es ep t) (hh : A.handled = none) (hf : L.length ≤ 1)
    (fin : ∀ z p (out : Array Value) (c : Nat), (∀ b o, s.heap.get? b = some o → z.heap.get? b = some o) → z.gens = s.gens → z.os = s.os → s.heap.objs.size ≤ p →
      z.heap.get? p = some (seqObj "list" out c) → out.toList = L.map (fun q => Value.ref q.1) → Q (.ref p) z) : wpAny (model P w) A (call (.builtin "sorted") [.ref a]) Q E s := by
  obtain ⟨o, ho, hex, hd⟩ := R.ob
  have hsz := R.size
  refine Calls.call_function_entry kind_sorted plain_sorted entry_sorted (args_sorted1 _) ?_
  unfold Builtin.«sorted»
  refine wpAny_bind (m := checkCount "sorted" 1 1 _) (wpAny_pure ?_)
  refine wpAny_bind (collect_set (A := A.in1) hh ⟨o, ho, hex.1, hd⟩ R.fits (by unfold scanBound; omega) R.tab.ris R.led fun z vs k1 hz g1 o1 pm => ?_)
  have rows : es.toList.map (·.2) = L.map fun q => Value.ref q.1 := by
    rw [R.rows]
    unfold L2.rowsOf
    rw [List.map_map]; rfl
  rw [rows] at pm
  have ev := perm_few pm (by rw [List.length_map]; exact hf)
  have vl : vs.length ≤ 1 := by rw [ev, List.length_map]; exact hf
  refine wpAny_bind (wpAny_newList ?_ (by rw [sizeLine_eq]; omega))
  have hoL : (z.heap.push (seqObj "list" vs.toArray 0)).get? z.heap.objs.size = some (seqObj "list" vs.toArray 0) := Heap.get?_push_size _ rfl
  refine wpAny_bind (wpAny_holding (sort_few (s := { z with heap := z.heap.push (seqObj "list" vs.toArray 0) }) hoL vl fun out eo => ?_))
  obtain ⟨c, hc⟩ := sortedHeap_at (vs := vs) (out := out) hoL
  refine wpAny_pure ⟨_, rfl, fin _ z.heap.objs.size out c (fun b u e => ?_) g1 o1 hz hc (eo.trans ev)⟩
  have q := k1 b u e
  have hlt := Heap.lt_size q
  show (sortedHeap (z.heap.push (seqObj "list" vs.toArray 0)) z.heap.objs.size vs out).get? b = some u
  rw [sortedHeap_old (Nat.ne_of_lt hlt) (by rw [size_push']; exact Nat.lt_succ_of_lt hlt)]
  exact Heap.get?_push_of_some _ q
end
section
variable {X : Cx}
/-- sorted(xs): at most one thing, or fewer than 64 tuples of d ints from 0 on below C -/
def rSortL58 (K : PySem.W.Frag) : List V → Hp → VK → Prop := fun vs H Q =>
  (∃ (a : Addr) (xs : List V), vs = [V.ref a] ∧ SqL K H a xs ∧ xs.length ≤ 1 ∧ ∀ p, H p = none → Q (.ref p) (upd H p (.lst xs))) ∨ ∃ (d : Nat) (C : Int), 1 ≤ d ∧ rSortU K d C vs H Q
theorem cr_sortedL58 : CallR X (.builtin "sorted") (rSortL58 X.K) := by
  intro pins z σ H vs us Q I r h
  rcases h with ⟨a, xs, rfl, hs, hf, q⟩ | ⟨d, C, hd, h⟩
  · obtain ⟨its, rv, hl, hz⟩ := I.list hs
    rw [Vals.ref1 r]
    refine sorted_few hl.isList (by rw [← rv.length]; exact hf) fun out eo => ?_
    obtain ⟨ep, he⟩ := PyProof.Rows.sortedAll_at z.heap its out
    exact ⟨.ref _, upd H (z.heap.objs.size + 1) (.lst xs), I.laid (t' := z.toks) (fun _ _ => PyProof.Rows.sortedAll_old) (Nat.le_succ _) ⟨hz, out.toList, ep, by rw [eo]; exact rv, he⟩, rfl, q _ (I.hok.fresh (Nat.le_succ _))⟩
  · exact cr_sortT hd pins z σ H vs us Q I r h
/-- sorted(s), s a set of tuples: of at most one, or of d ints from 0 on below C -/
def rSortS58 (K : PySem.W.Frag) (P : Program) (w : World) : List V → Hp → VK → Prop := fun vs H Q =>
  (∃ (a : Addr) (L : List (Addr × List Int)), vs = [V.ref a] ∧ H a = some (SetTO P w a L) ∧ (∀ p ∈ L, SqT K H p.1 (p.2.map V.int)) ∧ L.length ≤ 1 ∧ ∀ p, H p = none → Q (.ref p) (upd H p (.lst (L.map fun q => V.ref q.1)))) ∨ rSortedT K P w vs H Q
theorem cr_sortedS58 (hc : X.calm = true) : CallR X (.builtin "sorted") (rSortS58 X.K X.prog X.w) := by
  intro pins z σ H vs us Q I r h
  rcases h with ⟨a, L, rfl, ha, hk, hf, q⟩ | h
  · have R0 : SetT0 X.prog X.w z.heap a L := (I.hok a _ ha).1
    obtain ⟨es, ep, t, R⟩ := R0.full fun p hp => Inv.isT I (hk p hp)
    rw [Vals.ref1 r]
    refine sorted_set_few R (I.ok.hd hc) hf fun z2 p out c k g o hp hg hout => ?_
    have hlen : (L.map fun q => V.ref q.1).length ≤ sizeLine := by rw [List.length_map, sizeLine_eq]; omega
    have hn : H p = none := I.hok.fresh hp
    have hv : Vals (L.map fun q => V.ref q.1) out.toList := by rw [hout]; exact vals_of_refs L
    have J : Inv X pins σ (upd H p (.lst (L.map fun q => V.ref q.1))) { z with heap := z2.heap, gens := z2.gens, drawn := z2.drawn, toks := z2.toks } :=
      I.call (ch := []) (Un.laid k hp hn) (I.hok.laid k hp ⟨hlen, out.toList, c, hv, hg⟩) (by rw [g]; exact I.bare) (fun _ q => nomatch q)
    have e : z2 = { z with heap := z2.heap, gens := z2.gens, drawn := z2.drawn, toks := z2.toks } := by
      cases z2
      cases z
      cases o
      rfl
    rw [e]
    exact ⟨.ref p, _, J, rfl, q p hn⟩
  · exact cr_sortedT hc pins z σ H vs us Q I r h
end
end K58

/-! K58Math2: the plain law of small histories: all rows of menus, the plans among them, the sorted lists. -/
namespace K58
theorem rows_snoc (ms : List (List Nat)) (m : List Nat) : rowsOf (ms ++ [m]) = (rowsOf ms).flatMap fun row => m.map fun one => row ++ [one] := by
  unfold rowsOf; rw [List.foldl_append]; rfl
theorem rows_snoc_mem {ms : List (List Nat)} {m x : List Nat} : x ∈ rowsOf (ms ++ [m]) ↔ ∃ row ∈ rowsOf ms, ∃ o ∈ m, x = row ++ [o] := by
  rw [rows_snoc, List.mem_flatMap]
  constructor
  · rintro ⟨row, hr, hx⟩
    obtain ⟨o, ho, e⟩ := List.mem_map.mp hx
    exact ⟨row, hr, o, ho, e.symm⟩
  · rintro ⟨row, hr, o, ho, e⟩
    exact ⟨row, hr, List.mem_map.mpr ⟨o, ho, e.symm⟩⟩
theorem rows_snoc_len (ms : List (List Nat)) (m : List Nat) : (rowsOf (ms ++ [m])).length = (rowsOf ms).length * m.length := by
  rw [rows_snoc, List.length_flatMap]
  induction rowsOf ms with
  | nil => rw [List.map_nil, List.sum_nil, List.length_nil, Nat.zero_mul]
  | cons r rs ih => rw [List.map_cons, List.sum_cons, ih, List.length_cons, List.length_map, Nat.succ_mul, Nat.add_comm]
/-- the menus of the versions 1 to k -/
def menus (h : List Nat) (k : Nat) : List (List Nat) := (List.range k).map fun i => up h (i + 1)
theorem menus_succ (h : List Nat) (k : Nat) : menus h (k + 1) = menus h k ++ [up h (k + 1)] := by
  unfold menus; rw [List.range_succ, List.map_append]; rfl
theorem menus_mem {h : List Nat} : ∀ (k : Nat) (x : List Nat), x ∈ rowsOf (menus h k) ↔ x.length = k ∧ ∀ i y : Nat, x[i]? = some y → y ∈ up h (i + 1)
  | 0, x => by
    show x ∈ [[]] ↔ _
    rw [List.mem_singleton]
    constructor
    · intro e
      subst e
      exact ⟨rfl, fun i y q => by simp at q⟩
    · intro q
      exact List.eq_nil_of_length_eq_zero q.1
  | k + 1, x => by
    rw [menus_succ, rows_snoc_mem]
    constructor
    · rintro ⟨row, hr, o, ho, e⟩
      subst e
      have ⟨h1, h2⟩ := (menus_mem k row).mp hr
      refine ⟨by rw [List.length_append, h1]; rfl, fun i y q => ?_⟩
      by_cases c : i < row.length
      · rw [List.getElem?_append_left c] at q
        exact h2 i y q
      · rw [List.getElem?_append_right (by omega)] at q
        have hi := (List.getElem?_eq_some_iff.mp q).1
        rw [List.length_singleton] at hi
        have ei : i = k := by omega
        subst ei
        rw [h1, Nat.sub_self] at q
        rw [← Option.some.inj q]
        exact ho
    · rintro ⟨h1, h2⟩
      have ex : x = x.take k ++ [x.getD k 0] := by
        have q : x[k]? = some (x.getD k 0) := by
          rw [getD_getElem?, List.getElem?_eq_getElem (by omega)]; rfl
        have t := List.take_add_one (l := x) (i := k)
        rw [q, List.take_of_length_le (by omega)] at t
        exact t
      refine ⟨x.take k, (menus_mem k _).mpr ⟨by rw [List.length_take]; omega, fun i y q => ?_⟩, x.getD k 0, ?_, ex⟩
      · rw [List.getElem?_take] at q
        split at q
        · exact h2 i y q
        · cases q
      · refine h2 k _ ?_
        rw [getD_getElem?, List.getElem?_eq_getElem (by omega)]; rfl
theorem menus_bas {h x : List Nat} : x ∈ rowsOf (menus h h.length) ↔ Bas h x := menus_mem h.length x
theorem rep_mem {M : List Nat} : ∀ (k : Nat) (x : List Nat), x ∈ rowsOf (List.replicate k M) ↔ x.length = k ∧ ∀ y ∈ x, y ∈ M
  | 0, x => by
    show x ∈ [[]] ↔ _
    rw [List.mem_singleton]
    constructor
    · intro e
      subst e
      exact ⟨rfl, fun y q => by cases q⟩
    · intro q
      exact List.eq_nil_of_length_eq_zero q.1
  | k + 1, x => by
    rw [List.replicate_succ', rows_snoc_mem]
    constructor
    · rintro ⟨row, hr, o, ho, e⟩
      subst e
      have ⟨h1, h2⟩ := (rep_mem k row).mp hr
      refine ⟨by rw [List.length_append, h1]; rfl, fun y q => ?_⟩
      rcases List.mem_append.mp q with z | z
      · exact h2 y z
      · rw [List.mem_singleton.mp z]; exact ho
    · rintro ⟨h1, h2⟩
      have ex : x = x.take k ++ [x.getD k 0] := by
        have q : x[k]? = some (x.getD k 0) := by
          rw [getD_getElem?, List.getElem?_eq_getElem (by omega)]; rfl
        have t := List.take_add_one (l := x) (i := k)
        rw [q, List.take_of_length_le (by omega)] at t
        exact t
      refine ⟨x.take k, (rep_mem k _).mpr ⟨by rw [List.length_take]; omega, fun y q => h2 y (List.mem_of_mem_take q)⟩, x.getD k 0, ?_, ex⟩
      refine h2 _ (List.mem_of_getElem? (i := k) ?_)
      rw [getD_getElem?, List.getElem?_eq_getElem (by omega)]; rfl
theorem snoc_inj {a b : List Nat} {x y : Nat} (h : a ++ [x] = b ++ [y]) : a = b ∧ x = y := by
  have := List.append_inj' h rfl
  exact ⟨this.1, by injection this.2⟩
theorem rows_nodup_snoc {ms : List (List Nat)} {m : List Nat} (h1 : (rowsOf ms).Nodup) (h2 : m.Nodup) : (rowsOf (ms ++ [m])).Nodup := by
  rw [rows_snoc]
  unfold List.Nodup
  rw [List.pairwise_flatMap]
  refine ⟨fun row _ => ?_, List.Pairwise.imp (fun {a b} hne x hx y hy e => ?_) h1⟩
  · rw [List.pairwise_map]
    exact List.Pairwise.imp (fun {a b} hne e => hne (snoc_inj e).2) h2
  · obtain ⟨o, _, e1⟩ := List.mem_map.mp hx
    obtain ⟨o', _, e2⟩ := List.mem_map.mp hy
    subst e1
    subst e2
    exact hne (snoc_inj e).1
theorem up_nodup {h : List Nat} (H : Hist h) (v : Nat) : (up h v).Nodup :=
  List.Pairwise.imp (fun {a b} q e => by omega) (List.pairwise_cons.mp (up_desc H v)).2
theorem menus_nodup {h : List Nat} (H : Hist h) : ∀ k, (rowsOf (menus h k)).Nodup
  | 0 => by
    show ([[]] : List (List Nat)).Nodup
    exact List.nodup_cons.mpr ⟨by simp, List.nodup_nil⟩
  | k + 1 => by
    rw [menus_succ]
    exact rows_nodup_snoc (menus_nodup H k) (up_nodup H _)
def fac : Nat → Nat
  | 0 => 1
  | k + 1 => fac k * (k + 1)
theorem menus_len {h : List Nat} (H : Hist h) : ∀ k, (rowsOf (menus h k)).length ≤ fac k
  | 0 => Nat.le_refl _
  | k + 1 => by
    rw [menus_succ, rows_snoc_len]
    exact Nat.mul_le_mul (menus_len H k) (up_len H _)
theorem fac_le : ∀ k, k ≤ 5 → fac k ≤ 120
  | 0, _ => by decide
  | 1, _ => by decide
  | 2, _ => by decide
  | 3, _ => by decide
  | 4, _ => by decide
  | 5, _ => by decide
  | k + 6, h => by omega
theorem fac_le4 : ∀ k, k ≤ 4 → fac k ≤ 24
  | 0, _ => by decide
  | 1, _ => by decide
  | 2, _ => by decide
  | 3, _ => by decide
  | 4, _ => by decide
  | k + 5, h => by omega
/-- the first row: the parents -/
theorem menus_first {h : List Nat} (H : Hist h) : ∀ k, k ≤ h.length → (rowsOf (menus h k))[0]? = some (h.take k)
  | 0, _ => rfl
  | k + 1, hk => by
    have ih := menus_first H k (by omega)
    rw [menus_succ, rows_snoc]
    cases e : rowsOf (menus h k) with
    | nil => rw [e] at ih; cases ih
    | cons r rs =>
      rw [e] at ih
      have er : r = h.take k := Option.some.inj ih
      rw [List.flatMap_cons, up_step H (by omega), List.map_cons]
      show some (r ++ [par h (k + 1)]) = some (h.take (k + 1))
      have q := par_some (l := h) (v := k + 1) (by omega) hk
      rw [Nat.add_sub_cancel] at q
      rw [er, List.take_add_one, q]; rfl
theorem par_bas {h : List Nat} (H : Hist h) : Bas h h := Bas.of rfl fun v h1 h2 => by rw [up_step H h1]; exact List.mem_cons_self
theorem par_plan {h : List Nat} (H : Hist h) : crossP h h = none := (crossP_none H (par_bas H)).mpr fun z v h1 h2 hv hv1 hlt => by
  have := up_le_par H h1 hv
  omega
theorem htsOf_small {h b : List Nat} (H : Hist h) (B : Bas h b) : ∀ x ∈ htsOf b, 1 ≤ x ∧ x ≤ h.length := by
  intro x hx
  have HB := B.hist H
  have h1 := (htsOf_hts B).2 x hx
  refine ⟨h1, ?_⟩
  obtain ⟨i, hi, e⟩ := List.getElem_of_mem hx
  rw [htsOf_len] at hi
  have q : par (htsOf b) (i + 1) = x := par_at (by rw [List.getElem?_eq_getElem (by rw [htsOf_len]; exact hi), e])
  rw [htsOf_par (by omega) (by omega)] at q
  have s := rd_step HB (v := i + 1) (by omega) (by omega)
  have m : most (reads b) ≤ h.length := by
    have short : ∀ v, v ≤ b.length → rd b v ≤ v := by
      intro v
      induction v using Nat.strongRecOn with
      | ind v ih =>
        intro hv
        by_cases c : v = 0
        · rw [c, rd_zero]; exact Nat.le_refl _
        · have hp := par_lt HB (v := v) (by omega)
          have := rd_step HB (v := v) (by omega) hv
          have := ih _ hp (by omega)
          omega
    rcases most_mem (reads b) 0 with e | q
    · have e' : most (reads b) = 0 := e
      omega
    · obtain ⟨j, hj, ej⟩ := List.getElem_of_mem q
      rw [reads_length] at hj
      have : rd b j = most (reads b) := by
        unfold rd
        rw [getD_getElem?, List.getElem?_eq_getElem (by rw [reads_length]; exact hj), ej]; rfl
      have := short j (by omega)
      have hb := B.1
      omega
  omega
/-- sorted lists of the same things, told apart by their rank, are one -/
theorem sorted_one {α : Type} (f : α → Int) : ∀ (A B : List α), A.Nodup → B.Nodup → (∀ x, x ∈ A ↔ x ∈ B) → A.Pairwise (fun x y => f x ≤ f y) → B.Pairwise (fun x y => f x ≤ f y) → (∀ x ∈ A, ∀ y ∈ A, f x = f y → x = y) → A = B
  | [], B, _, _, hm, _, _, _ => by
    cases B with
    | nil => rfl
    | cons y B => exact absurd ((hm y).mpr List.mem_cons_self) (by simp)
  | x :: A, B, nA, nB, hm, pA, pB, hf => by
    cases B with
    | nil => exact absurd ((hm x).mp List.mem_cons_self) (by simp)
    | cons y B =>
      have ⟨xA, nA'⟩ := List.nodup_cons.mp nA
      have ⟨yB, nB'⟩ := List.nodup_cons.mp nB
      have ⟨lA, pA'⟩ := List.pairwise_cons.mp pA
      have ⟨lB, pB'⟩ := List.pairwise_cons.mp pB
      have yA : y ∈ x :: A := (hm y).mpr List.mem_cons_self
      have xB : x ∈ y :: B := (hm x).mp List.mem_cons_self
      have h1 : f x ≤ f y := by
        rcases List.mem_cons.mp yA with e | m
        · rw [e]; exact Int.le_refl _
        · exact lA y m
      have h2 : f y ≤ f x := by
        rcases List.mem_cons.mp xB with e | m
        · rw [e]; exact Int.le_refl _
        · exact lB x m
      have e : x = y := hf x List.mem_cons_self y yA (by omega)
      subst e
      rw [sorted_one f A B nA' nB' (fun z => ?_) pA' pB' fun a ha b hb => hf a (List.mem_cons_of_mem _ ha) b (List.mem_cons_of_mem _ hb)]
      constructor
      · intro hz
        rcases List.mem_cons.mp ((hm z).mp (List.mem_cons_of_mem _ hz)) with q | q
        · rw [q] at hz; exact absurd hz xA
        · exact q
      · intro hz
        rcases List.mem_cons.mp ((hm z).mpr (List.mem_cons_of_mem _ hz)) with q | q
        · rw [q] at hz; exact absurd hz yB
        · exact q
/-- the plans of a history are what the heights from 1 to n lead to -/
theorem found_iff {h : List Nat} (H : Hist h) (x : List Nat) :
    (∃ hs ∈ rowsOf (List.replicate h.length ((List.range h.length).map (· + 1))), x = higher h hs) ↔ x ∈ (rowsOf (menus h h.length)).filter fun b => decide (crossP h b = none) := by
  rw [List.mem_filter, menus_bas, decide_eq_true_eq]
  constructor
  · rintro ⟨hs, _, e⟩
    subst e
    exact ⟨higher_bas H hs, higher_none H hs⟩
  · rintro ⟨B, hn⟩
    refine ⟨htsOf x, (rep_mem _ _).mpr ⟨by rw [htsOf_len, B.1], fun y hy => ?_⟩, ((made_iff H B).mpr hn).symm⟩
    have := htsOf_small H B y hy
    exact List.mem_map.mpr ⟨y - 1, List.mem_range.mpr (by omega), by omega⟩
end K58

/-! K58G: _law_all_rows. -/
namespace K58
open PySem PySem.Spec PyProof.Rows L2
abbrev s_law_all_rows : Stmt := topS 51
abbrev N_law_all_rows : List Str := ["_law_menus", "_law_rows", "_law_menu", "_law_more", "_law_row", "_law_one"]
theorem sc_law_all_rows : FnScope N_law_all_rows ["_law_menus"] (defScope s_law_all_rows) := ⟨rfl, rfl, rfl, by decide +kernel, rfl, by decide +kernel, by decide +kernel⟩
theorem paired_get {α β : Type} {F : α → β → Prop} : ∀ {l : List α} {m : List β}, Paired F l m → ∀ {i : Nat} {a : α}, l[i]? = some a → ∃ b, m[i]? = some b ∧ F a b
  | _, _, .nil, i, a, h => by simp at h
  | _, _, .cons r t, 0, a, h => ⟨_, rfl, by rw [← Option.some.inj h]; exact r⟩
  | _, _, .cons r t, i + 1, a, h => paired_get t (i := i) h
theorem paired_none {α β : Type} {F : α → β → Prop} {l : List α} {m : List β} (p : Paired F l m) {i : Nat} (h : l[i]? = none) : m[i]? = none := by
  have := p.length
  rw [List.getElem?_eq_none_iff] at h ⊢
  omega
theorem paired_app {α β : Type} {F : α → β → Prop} : ∀ {l : List α} {m : List β} {l' : List α} {m' : List β}, Paired F l m → Paired F l' m' → Paired F (l ++ l') (m ++ m')
  | _, _, _, _, .nil, q => q
  | _, _, _, _, .cons r t, q => .cons r (paired_app t q)
theorem paired_of {α β : Type} {F : α → β → Prop} : ∀ {l : List α} {m : List β}, l.length = m.length → (∀ (i : Nat) a b, l[i]? = some a → m[i]? = some b → F a b) → Paired F l m
  | [], [], _, _ => .nil
  | [], _ :: _, h, _ => by cases h
  | _ :: _, [], h, _ => by cases h
  | a :: l, b :: m, h, q => .cons (q 0 a b rfl rfl) (paired_of (by injection h) fun i x y hx hy => q (i + 1) x y hx hy)
theorem paired_pick {α β : Type} {F : α → β → Prop} {l : List α} {m : List β} (p : Paired F l m) : ∀ js : List Nat, Paired F (js.filterMap (l[·]?)) (js.filterMap (m[·]?))
  | [] => .nil
  | j :: js => by
    rw [List.filterMap_cons, List.filterMap_cons]
    cases e : l[j]? with
    | none =>
      rw [paired_none p e]
      exact paired_pick p js
    | some a =>
      obtain ⟨b, hb, f⟩ := paired_get p e
      rw [hb]
      exact .cons f (paired_pick p js)
/-- at each of rs: a tuple of the numbers of the row -/
abbrev Tups (H : Hp) (rs : List Addr) (R : List (List Nat)) : Prop := Paired (fun r row => H r = some (.tup (vn row))) rs R
abbrev Lsts (H : Hp) (rs : List Addr) (R : List (List Nat)) : Prop := Paired (fun r row => H r = some (.lst (vn row))) rs R
theorem tups_same {H H' : Hp} {rs : List Addr} {R : List (List Nat)} (t : Tups H rs R) (s : Same H H') : Tups H' rs R := Paired.mapP t fun _ _ e => s _ _ e
theorem tups_upd {H : Hp} {rs : List Addr} {R : List (List Nat)} {q : Addr} {ys : List V} {o : HO} (t : Tups H rs R) (hq : H q = some (.lst ys)) : Tups (upd H q o) rs R := Paired.mapP t fun r _ e => by
  rw [upd_ne (ne_of e hq (fun z => by cases z))]; exact e
theorem lsts_same {H H' : Hp} {rs : List Addr} {R : List (List Nat)} (t : Lsts H rs R) (s : Same H H') : Lsts H' rs R := Paired.mapP t fun _ _ e => s _ _ e
theorem rf_app (a b : List Addr) : rf a ++ rf b = rf (a ++ b) := by unfold rf; rw [List.map_append]
theorem flat_len (l : List (List Nat)) (m : List Nat) : (l.flatMap fun row => m.map fun one => row ++ [one]).length = l.length * m.length := by
  rw [List.length_flatMap]
  induction l with
  | nil => rw [List.map_nil, List.sum_nil, List.length_nil, Nat.zero_mul]
  | cons r rs ih => rw [List.map_cons, List.sum_cons, ih, List.length_cons, List.length_map, Nat.succ_mul, Nat.add_comm]
theorem rows_take {ms : List (List Nat)} {i : Nat} {m : List Nat} (h : ms[i]? = some m) : rowsOf (ms.take (i + 1)) = (rowsOf (ms.take i)).flatMap fun row => m.map fun one => row ++ [one] := by
  rw [take_snoc h, rows_snoc]
theorem rows_pow {ms : List (List Nat)} (hm : ∀ m ∈ ms, m.length ≤ 5) : ∀ i, i ≤ ms.length → (rowsOf (ms.take i)).length ≤ 5 ^ i
  | 0, _ => Nat.le_refl _
  | i + 1, hi => by
    have e : ms[i]? = some ms[i] := List.getElem?_eq_getElem (by omega)
    rw [take_snoc e, rows_snoc_len, Nat.pow_succ]
    exact Nat.mul_le_mul (rows_pow hm i (by omega)) (hm _ (List.getElem_mem (by omega)))
theorem rows_few {ms : List (List Nat)} (hm : ∀ m ∈ ms, m.length ≤ 5) (h5 : ms.length ≤ 5) {i : Nat} (hi : i ≤ ms.length) : (rowsOf (ms.take i)).length ≤ 3125 := by
  have h := rows_pow hm i hi
  have : 5 ^ i ≤ 5 ^ 5 := Nat.pow_le_pow_right (by omega) (by omega)
  omega
section
variable {P : Program} {w : World} {K : PySem.W.Frag} {mg : Str → Option Value} {base : Heap}
def spRows (K : PySem.W.Frag) : Sp := fun vs H Q _ => ∃ (a : Addr) (ms : List Addr) (mss : List (List Nat)), vs = [.ref a] ∧ SqL K H a (rf ms) ∧ Lsts H ms mss ∧ mss.length ≤ 5 ∧ (∀ m ∈ mss, m.length ≤ 5) ∧
  ∀ p H' rs, H p = none → Same H H' → H' p = some (.lst (rf rs)) → Tups H' rs (rowsOf mss) → Q (.ref p) H'
theorem ok_law_all_rows (B : Bl mg) (D : Dn K mg "_law_all_rows" s_law_all_rows ["_law_menus"]) : Ok P w K mg base "_law_all_rows" ["_law_menus"] 1 (spRows K) := by
  obtain ⟨f, fd, F, g, b⟩ := D.ex
  have sc := sc_law_all_rows
  refine ⟨f, fd, g, F.kp, b, F.ok sc (fun vs H Q E h => ?_) (fun cdv A outer s H vs Q E hr h => ?_)⟩
  · obtain ⟨a, ms, mss, rfl, _⟩ := h
    rfl
  · obtain ⟨a, ms, mss, rfl, hA, hM, h5, hm5, k⟩ := h
    have hml := hM.length
    refine ⟨_, (pss_cons (ps_set (i := 1) sc.nd rfl (Or.inl rfl) (pe_lst (pa_cons (pe_tup pa_nil) pa_nil)))
    (pss_cons (ps_for PassesOwn.never rfl (pi_list (pv 0)) (pg_name (i := 2) sc.nd rfl (Or.inl rfl))
      (pss_cons (ps_set (i := 3) sc.nd rfl (Or.inl rfl) (pe_lst pa_nil))
    (pss_cons (ps_for PassesOwn.never rfl (pi_list (pe_callTy call_list_of (by rfl) B.n_list (by decide +kernel) (pa_cons (pv 1) pa_nil))) (pg_name (i := 4) sc.nd rfl (Or.inr rfl))
      (pss_one (ps_expr (pe_bm PySem.F.plainAttrs_list PySem.F.slot_list_extend PySem.F.type_list_extend mt_extend (pv 3) (pa_cons (pe_lc (own := [("_law_one", 5)]) rfl sc.nd (pi_list (pv 2)) (blkOk_by (N := N_law_all_rows) (sc := defScope s_law_all_rows) (by decide +kernel)) (fun _ _ _ _ _ => pg_name (i := 5) sc.nd rfl (Or.inl rfl)) (fun _ _ _ _ _ => pts_nil) (fun _ _ _ _ _ => (pe_op (show OpR _ _ (rCatA K) from op_catA) (pv 4) (pe_tup (pa_cons (pv 5) pa_nil))))) pa_nil)))))
    (pss_one (ps_set (i := 1) sc.nd rfl (Or.inl rfl) (pv 3))))))
    (pss_one (ps_ret (pv 1))))), ?_⟩
    refine ⟨sizeOk (by show 0 ≤ 100000; decide), fun t0 nt0 => ⟨sizeOk (by show 1 ≤ 100000; decide), fun p0 np0 => ?_⟩⟩
    have s0 := (Same.new (o := .tup []) nt0).trans (Same.new (o := .lst [.ref t0]) np0)
    have ht0 := Same.new (o := .lst [.ref t0]) np0 t0 (.tup []) upd_same
    refine ⟨.ref a, rfl, a, rfl, ⟨_, s0.seq hA⟩, for_list (K := K) (a := a) (xs := rf ms) (fun i σ H' => ∃ prow rs y2 y3 y4 y5, σ = [some (.ref a), some (.ref prow), y2, y3, y4, y5] ∧ Same H H' ∧ H prow = none ∧ H' prow = some (.lst (rf rs)) ∧ Tups H' rs (rowsOf (mss.take i)))
      ⟨p0, [t0], none, none, none, none, rfl, s0, (Same.new (o := .tup []) nt0).free np0, upd_same, .cons ht0 .nil⟩ (fun i σ H' _ ⟨_, _, _, _, _, _, _, sm, _⟩ => sm.seq hA) (fun i x σ H' hx z => ?_) (fun σ H' z => ?_)⟩
    · obtain ⟨prow, rs, y2, y3, y4, y5, rfl, sm, hpn, hp, hT⟩ := z
      obtain ⟨r, hr, rfl⟩ := rf_of hx
      obtain ⟨m, hm, hrl⟩ := paired_get hM hr
      have hi := (List.getElem?_eq_some_iff.mp hm).1
      have hm5' := hm5 m (List.mem_of_getElem? hm)
      have few := rows_few hm5 h5 (i := i) (by omega)
      have hrs := hT.length
      refine ⟨sizeOk (by show 0 ≤ 100000; decide), fun q nq => ?_⟩
      have n0 := sm.free nq
      have s1 := sm.trans (Same.new (o := .lst []) nq)
      have hp1 := Same.new (o := .lst []) nq _ _ hp
      have hT1 := tups_same hT (Same.new (o := .lst []) nq)
      refine ⟨.ref prow, rfl, prow, _, rfl, .inl (SqL.of hp1), fun L nL => ?_⟩
      have s2 := s1.trans (Same.new (o := .lst (rf rs)) nL)
      have hT2 := tups_same hT1 (Same.new (o := .lst (rf rs)) nL)
      have qL : q ≠ L := fun e => by rw [← e, upd_same] at nL; cases nL
      have hq2 := Same.new (o := .lst (rf rs)) nL q (.lst []) upd_same
      have hL2 : (upd (upd H' q (.lst [])) L (.lst (rf rs))) L = some (.lst (rf rs)) := upd_same
      generalize upd (upd H' q (.lst [])) L (.lst (rf rs)) = H2 at s2 hT2 hq2 hL2
      generalize hR : rowsOf (mss.take i) = Ri at hT2 few hrs hT
      refine ⟨L, rfl, ⟨_, SqL.of hL2⟩, for_list (K := K) (a := L) (xs := rf rs) (fun j σ H3 => ∃ y4 ts, σ = [some (.ref a), some (.ref prow), some (.ref r), some (.ref q), y4, y5] ∧ Same H H3 ∧ H3 L = some (.lst (rf rs)) ∧ Tups H3 rs Ri ∧ H3 q = some (.lst (rf ts)) ∧ Tups H3 ts ((Ri.take j).flatMap fun row => m.map fun one => row ++ [one]))
        ⟨y4, [], rfl, s2, hL2, hT2, hq2, .nil⟩ (fun j σ H3 _ ⟨_, _, _, _, z, _⟩ => SqL.of z) (fun j x σ H3 hx z => ?_) (fun σ H3 z => ?_)⟩
      · obtain ⟨y4, ts, rfl, s3, hL3, hT3, hq3, ht3⟩ := z
        obtain ⟨rr, hrr, rfl⟩ := rf_of hx
        obtain ⟨row, hrow, hrt⟩ := paired_get hT3 hrr
        have hts := ht3.length
        rw [flat_len, List.length_take] at hts
        have hle : min j Ri.length * m.length ≤ 3125 * 5 := Nat.mul_le_mul (by omega) hm5'
        refine ⟨.ref q, rfl, .inl ⟨rfl, _, SqL.of hq3⟩, .ref r, rfl, r, rfl, ⟨_, SqL.of (s3 _ _ hrl)⟩, fun Dl nD => ?_⟩
        refine lc_it (walk_list (K := K) (a := r) (xs := vn m)) (fun c H4 => Same H3 H4 ∧ ∃ us, H4 Dl = some (.lst (rf us)) ∧ Tups H4 us ((m.take c).map fun one => row ++ [one])) ⟨Same.new nD, [], upd_same, .nil⟩
          (fun c H4 _ z => SqL.of (z.1 _ _ (s3 _ _ hrl))) (fun c x H4 H'' hc z y => ?_) (fun H4 z => ?_)
        · obtain ⟨rfl, hx⟩ := y
          obtain ⟨o, ho, rfl⟩ := vn_of hx
          obtain ⟨s4, us, hD4, hU4⟩ := z
          have hul := hU4.length
          rw [List.length_map, List.length_take] at hul
          have fin : ∀ u H5, H'' u = none → Same H'' H5 → H5 u = some (.tup (vn (row ++ [o]))) → ∃ acc, H5 Dl = some (.lst acc) ∧ acc.length < sizeLine ∧
              (Same H3 (upd H5 Dl (.lst (acc ++ [.ref u]))) ∧ ∃ us, (upd H5 Dl (.lst (acc ++ [.ref u]))) Dl = some (.lst (rf us)) ∧ Tups (upd H5 Dl (.lst (acc ++ [.ref u]))) us ((m.take (c + 1)).map fun one => row ++ [one])) := fun u H5 nu s5 hu => by
            have hD5 := s5 _ _ hD4
            refine ⟨rf us, hD5, sizeLt (by rw [rf_len]; omega), Same.mut (s4.trans s5) nD, us ++ [u], by rw [upd_same, rf_snoc], ?_⟩
            rw [take_snoc ho, List.map_append]
            exact paired_app (tups_upd (tups_same hU4 s5) hD5) (.cons (by rw [upd_ne (ne_of hu hD5 (fun z => by cases z))]; exact hu) .nil)
          refine ⟨rfl, .ref rr, rfl, .int (o : Int), rfl, sizeOk (by show 1 ≤ 100000; decide), fun t nt => ?_⟩
          have hrr5 := Same.new (o := .tup [.int (o : Int)]) nt _ _ (s4 _ _ hrt)
          have rowl : row.length ≤ 5 := by
            have hmem : row ∈ rowsOf (mss.take i) := by rw [hR]; exact List.mem_of_getElem? hrow
            have gen : ∀ (ms : List (List Nat)) (n : Nat), ms.length = n → ∀ x ∈ rowsOf ms, x.length = n := by
              intro ms n
              induction n generalizing ms with
              | zero =>
                intro hl x hx
                rw [List.eq_nil_of_length_eq_zero hl] at hx
                have hx' : x ∈ ([[]] : List (List Nat)) := hx
                rw [List.mem_singleton.mp hx']; rfl
              | succ n ih =>
                intro hl x hx
                have e : ms = ms.take n ++ [ms[n]'(by omega)] := by
                  have t := List.take_add_one (l := ms) (i := n)
                  rw [List.take_of_length_le (by omega), List.getElem?_eq_getElem (by omega)] at t
                  exact t
                rw [e] at hx
                obtain ⟨row', hr', o', _, e'⟩ := rows_snoc_mem.mp hx
                rw [e', List.length_append, ih (ms.take n) (by rw [List.length_take]; omega) row' hr']; rfl
            have := gen (mss.take i) _ rfl row hmem
            rw [List.length_take] at this
            omega
          refine ⟨rr, t, vn row, [.int (o : Int)], rfl, rfl, SqT.of hrr5, SqT.of upd_same, sizeOk (by rw [vn_len]; show _ + 1 ≤ _; omega), fun e0 => ?_, fun _ e1 => (by cases e1), fun _ _ u nu => ?_⟩
          · have er : row = [] := by
              cases row with
              | nil => rfl
              | cons x l => cases e0
            subst er
            exact fin t _ nt (Same.new nt) upd_same
          · refine fin u _ ((Same.new nt).free nu) ((Same.new nt).trans (Same.new nu)) ?_
            rw [upd_same]
            exact congrArg (fun z => some (HO.tup z)) (vn_snoc row o)
        · obtain ⟨s4, us, hD4, hU4⟩ := z
          rw [vn_len, List.take_length] at hU4
          have hul := hU4.length
          rw [List.length_map] at hul
          have hq4 := s4 _ _ hq3
          refine ⟨q, Dl, _, _, rfl, rfl, hq4, hD4, sizeOk (by rw [rf_len, rf_len]; omega), ?_⟩
          have qL4 : H4 L = some (.lst (rf rs)) := s4 _ _ hL3
          refine ⟨_, ts ++ us, rfl, Same.mut (s3.trans s4) n0, by rw [upd_ne qL.symm]; exact qL4, tups_upd (tups_same hT3 s4) hq4, by rw [upd_same, rf_app], ?_⟩
          rw [take_snoc hrow, List.flatMap_append, List.flatMap_cons, List.flatMap_nil, List.append_nil]
          exact paired_app (tups_upd (tups_same ht3 s4) hq4) (tups_upd hU4 hq4)
      · obtain ⟨y4, ts, rfl, s3, hL3, hT3, hq3, ht3⟩ := z
        rw [rf_len, hrs, List.take_length] at ht3
        refine ⟨.ref q, rfl, q, ts, _, _, _, _, rfl, s3, n0, hq3, ?_⟩
        rw [rows_take hm, hR]
        exact ht3
    · obtain ⟨prow, rs, y2, y3, y4, y5, rfl, sm, hpn, hp, hT⟩ := z
      rw [rf_len, hml, List.take_length] at hT
      exact ⟨.ref prow, rfl, k prow H' rs hpn sm hp hT⟩
end
end K58

/-! K58H: _law_small: all bases of a small history. -/
namespace K58
open PySem PySem.Spec PyProof.Rows L2
abbrev s_law_small : Stmt := topS 52
abbrev N_law_small : List Str := ["_law_history_here", "_law_elders_here", "_law_plans", "_law_rows", "_law_bases", "_law_menu", "_law_found", "_law_heights_here"]
theorem sc_law_small : FnScope N_law_small ["_law_history_here"] (defScope s_law_small) := ⟨rfl, rfl, rfl, by decide +kernel, rfl, by decide +kernel, by decide +kernel⟩
/-! ### tuples of numbers, told apart by a rank -/
def inz (row : List Nat) : List Int := row.map fun (n : Nat) => (n : Int)
theorem ints_inj {a b : List Nat} (h : inz a = inz b) : a = b := by
  have q := congrArg (fun l => l.map Int.toNat) h
  unfold inz at q
  simp only [List.map_map] at q
  have e : ∀ l : List Nat, l.map (Int.toNat ∘ fun (n : Nat) => (n : Int)) = l := fun l => by
    induction l with
    | nil => rfl
    | cons x l ih => rw [List.map_cons, ih]; rfl
  rw [e, e] at q
  exact q
def tdI (k : List Int) : PyData := .tuple (k.map PyData.int)
theorem td_ints (row : List Nat) : td row = tdI (inz row) := by
  unfold td tdI ids inz
  rw [List.map_map]; rfl
theorem layI : ∀ k : List Int, PyData.canLayAll0 (k.map PyData.int) = true
  | [] => by simp only [List.map_nil, PyData.canLayAll0]
  | n :: k => by
    have h := layI k
    rw [List.map_cons]
    simp only [PyData.canLayAll0, PyData.canLay0, h, Bool.and_self]
theorem depthI : ∀ k : List Int, PyData.depthAll (k.map PyData.int) = 0
  | [] => by simp only [List.map_nil, PyData.depthAll]
  | n :: k => by
    have h := depthI k
    rw [List.map_cons]
    simp only [PyData.depthAll, PyData.depth, h, Nat.max_self]
theorem layL : ∀ A : List (List Int), PyData.canLayAll0 (A.map tdI) = true
  | [] => by simp only [List.map_nil, PyData.canLayAll0]
  | k :: A => by
    have h := layL A
    rw [List.map_cons]
    unfold tdI at h ⊢
    simp only [PyData.canLayAll0, PyData.canLay0, layI, h, Bool.and_self]
theorem depthL : ∀ A : List (List Int), PyData.depthAll (A.map tdI) ≤ 1
  | [] => by simp only [List.map_nil, PyData.depthAll]; omega
  | k :: A => by
    have h := depthL A
    rw [List.map_cons]
    unfold tdI at h ⊢
    simp only [PyData.depthAll, PyData.depth, depthI]
    omega
theorem lay_ld (A : List (List Int)) : (PyData.list (A.map tdI)).canLay0 = true := by simp only [PyData.canLay0, layL]
theorem shaped_ld (A : List (List Int)) : SeqAt.shaped (.list (A.map tdI)) = true := by
  unfold SeqAt.shaped
  rw [lay_ld A]
  have h := depthL A
  have e : (PyData.list (A.map tdI)).depth ≤ 64 := by
    simp only [PyData.depth]
    omega
  rw [decide_eq_true e]; rfl
theorem code_inj {C : Int} : ∀ (a b : List Int), a.length = b.length → TS.Bd C a → TS.Bd C b → TS.code C a = TS.code C b → a = b
  | [], [], _, _, _, _ => rfl
  | [], _ :: _, h, _, _, _ => by cases h
  | _ :: _, [], h, _, _, _ => by cases h
  | x :: a, y :: b, hl, ha, hb, he => by
    have hl' : a.length = b.length := by injection hl
    rcases Int.lt_trichotomy x y with c | c | c
    · have := TS.code_lt (B := C) hl' ha.tail hb.tail c
      omega
    · subst c
      have e : TS.code C a = TS.code C b := by
        have h1 : TS.code C (x :: a) = x * C ^ a.length + TS.code C a := rfl
        have h2 : TS.code C (x :: b) = x * C ^ b.length + TS.code C b := rfl
        rw [h1, h2, hl'] at he
        omega
      rw [code_inj a b hl' ha.tail hb.tail e]
    · have := TS.code_lt (B := C) hl'.symm hb.tail ha.tail c
      omega
/-- what stands at t, as inz -/
def con (H : Hp) (t : Addr) : List Int := match H t with
  | some (.tup xs) => xs.filterMap fun v => match v with
    | .int i => some i
    | _ => none
  | _ => []
theorem con_at {H : Hp} {t : Addr} {row : List Nat} (h : H t = some (.tup (vn row))) : con H t = inz row := by
  unfold con
  rw [h]
  clear h
  unfold vn inz
  induction row with
  | nil => rfl
  | cons x row ih =>
    rw [List.map_cons, List.map_cons]
    simp only [List.filterMap_cons]
    rw [← ih]
theorem refs_perm {ys : List V} {ps : List Addr} (h : ys.Perm (rf ps)) : ∃ qs : List Addr, ys = rf qs ∧ qs.Perm ps := by
  let un : V → Addr := fun v => match v with
    | .ref a => a
    | _ => 0
  refine ⟨ys.map un, ?_, ?_⟩
  · unfold rf
    rw [List.map_map]
    have all : ∀ (l : List V), (∀ y ∈ l, ∃ a, y = V.ref a) → l = l.map (V.ref ∘ un) := by
      intro l
      induction l with
      | nil => intro _; rfl
      | cons y l ih =>
        intro hl
        obtain ⟨a, e⟩ := hl y List.mem_cons_self
        rw [List.map_cons, ← ih fun z hz => hl z (List.mem_cons_of_mem _ hz), e]
        rfl
    exact all ys fun y hy => by
      obtain ⟨a, _, e⟩ := List.mem_map.mp (h.mem_iff.mp hy)
      exact ⟨a, e.symm⟩
  · have := h.map un
    unfold rf at this
    rw [List.map_map] at this
    have e : ps.map (un ∘ V.ref) = ps := by
      rw [show (un ∘ V.ref) = id from rfl, List.map_id]
    rw [e] at this
    exact this
theorem tups_tt {H : Hp} {ts : List Addr} {F : List (List Nat)} (h : Tups H ts F) : ∃ tt : List (Addr × List Int), rf ts = tt.map (fun p => V.ref p.1) ∧ (∀ p ∈ tt, ∃ row ∈ F, p.2 = inz row ∧ H p.1 = some (.tup (vn row))) ∧ ∀ row ∈ F, ∃ p ∈ tt, p.2 = inz row := by
  induction h with
  | nil => exact ⟨[], rfl, fun p q => (by cases q), fun p q => (by cases q)⟩
  | @cons t row ts F r _ ih =>
    obtain ⟨tt, e1, e2, e3⟩ := ih
    refine ⟨(t, inz row) :: tt, ?_, fun p q => ?_, fun x q => ?_⟩
    · rw [List.map_cons, ← e1]; rfl
    · rcases List.mem_cons.mp q with z | z
      · rw [z]; exact ⟨row, List.mem_cons_self, rfl, r⟩
      · obtain ⟨y, hy, h1, h2⟩ := e2 p z
        exact ⟨y, List.mem_cons_of_mem _ hy, h1, h2⟩
    · rcases List.mem_cons.mp q with z | z
      · rw [z]; exact ⟨_, List.mem_cons_self, rfl⟩
      · obtain ⟨p, hp, h1⟩ := e3 x z
        exact ⟨p, List.mem_cons_of_mem _ hp, h1⟩
theorem tups_con {H : Hp} {ts : List Addr} {F : List (List Nat)} (h : Tups H ts F) : ts.map (con H) = F.map inz := by
  induction h with
  | nil => rfl
  | cons r _ ih => rw [List.map_cons, List.map_cons, ih, con_at r]
theorem tups_mem {H : Hp} {ts : List Addr} {F : List (List Nat)} (h : Tups H ts F) : ∀ t ∈ ts, ∃ row ∈ F, H t = some (.tup (vn row)) := by
  induction h with
  | nil => intro t q; cases q
  | cons r _ ih =>
    intro t q
    rcases List.mem_cons.mp q with z | z
    · rw [z]; exact ⟨_, List.mem_cons_self, r⟩
    · obtain ⟨y, hy, h1⟩ := ih t z
      exact ⟨y, List.mem_cons_of_mem _ hy, h1⟩
theorem map_nodup {α β : Type} {f : α → β} (hf : ∀ x y, f x = f y → x = y) {l : List α} (h : l.Nodup) : (l.map f).Nodup := by
  unfold List.Nodup
  rw [List.pairwise_map]
  exact List.Pairwise.imp (fun {a b} hne e => hne (hf a b e)) h
section
variable {P : Program} {w : World} {K : PySem.W.Frag} {mg : Str → Option Value} {base : Heap}
theorem dp_all1 {H : Hp} : ∀ {L : List (Addr × List Int)}, (∀ q ∈ L, ∃ row, q.2 = inz row ∧ H q.1 = some (.tup (vn row))) → DpAll K H (L.map fun q => V.ref q.1) ((L.map (·.2)).map tdI)
  | [], _ => .nil
  | q :: L, h => by
    obtain ⟨row, e1, e2⟩ := h q List.mem_cons_self
    refine .cons ?_ (dp_all1 fun p hp => h p (List.mem_cons_of_mem _ hp))
    show Dp K H (.ref q.1) (tdI q.2)
    rw [e1, ← td_ints]
    exact dp_tup (SqT.of e2)
theorem dp_all2 {H : Hp} : ∀ {qs : List Addr}, (∀ t ∈ qs, ∃ row, H t = some (.tup (vn row))) → DpAll K H (rf qs) ((qs.map (con H)).map tdI)
  | [], _ => .nil
  | t :: qs, h => by
    obtain ⟨row, e⟩ := h t List.mem_cons_self
    refine .cons ?_ (dp_all2 fun p hp => h p (List.mem_cons_of_mem _ hp))
    show Dp K H (.ref t) (tdI (con H t))
    rw [con_at e, ← td_ints]
    exact dp_tup (SqT.of e)
/-- two sorted lists of the same tuples are equal -/
theorem eq_sorted {H : Hp} {p1 p2 : Addr} {L : List (Addr × List Int)} {ys : List V} {ps : List Addr} {RP : List (List Nat)} {d : Nat} {C : Int} {Q : VK} (h1 : H p1 = some (.lst (L.map fun q => V.ref q.1))) (h2 : H p2 = some (.lst ys))
    (hL : ∀ q ∈ L, ∃ row ∈ RP, q.2 = inz row ∧ H q.1 = some (.tup (vn row))) (hR : ∀ row ∈ RP, inz row ∈ L.map (·.2)) (nL : (L.map (·.2)).Nodup) (pL : L.Pairwise (fun q r => TS.code C q.2 ≤ TS.code C r.2))
    (hy : ys.Perm (rf ps)) (hT : Tups H ps RP) (nR : RP.Nodup) (py : ys.Pairwise (fun x y => ∀ n m, TupI K H x n → TupI K H y m → TS.code C n ≤ TS.code C m)) (hd : ∀ row ∈ RP, row.length = d ∧ TS.Bd C (inz row)) (q : Q (.bl true) H) :
    rEqD K (.ref p1) (.ref p2) H Q := by
  obtain ⟨qs, rfl, hqs⟩ := refs_perm hy
  have qm : ∀ t ∈ qs, ∃ row ∈ RP, H t = some (.tup (vn row)) := fun t ht => tups_mem hT t (hqs.mem_iff.mp ht)
  have pc : (qs.map (con H)).Perm (RP.map inz) := by
    rw [← tups_con hT]
    exact hqs.map _
  have mA : ∀ x, x ∈ L.map (·.2) ↔ x ∈ RP.map inz := fun x => by
    constructor
    · intro hx
      obtain ⟨z, hz, e⟩ := List.mem_map.mp hx
      obtain ⟨row, hr, e2, _⟩ := hL z hz
      rw [← e, e2]
      exact List.mem_map.mpr ⟨row, hr, rfl⟩
    · intro hx
      obtain ⟨row, hr, e⟩ := List.mem_map.mp hx
      rw [← e]
      exact hR row hr
  have bd : ∀ x ∈ L.map (·.2), x.length = d ∧ TS.Bd C x := fun x hx => by
    obtain ⟨row, hr, e⟩ := List.mem_map.mp ((mA x).mp hx)
    have := hd row hr
    rw [← e]
    refine ⟨?_, this.2⟩
    unfold inz
    rw [List.length_map]; exact this.1
  have eA : L.map (·.2) = qs.map (con H) := by
    refine sorted_one (TS.code C) _ _ nL ?_ (fun x => (mA x).trans pc.mem_iff.symm) ?_ ?_ fun x hx y hy e => ?_
    · exact pc.nodup_iff.mpr (map_nodup (fun _ _ => ints_inj) nR)
    · rw [List.pairwise_map]; exact pL
    · rw [List.pairwise_map]
      unfold rf at py
      rw [List.pairwise_map] at py
      refine List.Pairwise.imp_of_mem (fun {a b} ha hb h => ?_) py
      obtain ⟨r1, _, e1⟩ := qm a ha
      obtain ⟨r2, _, e2⟩ := qm b hb
      rw [con_at e1, con_at e2]
      exact h _ _ ⟨a, rfl, by rw [show (inz r1).map V.int = vn r1 from (vn_ints r1).symm]; exact SqT.of e1⟩ ⟨b, rfl, by rw [show (inz r2).map V.int = vn r2 from (vn_ints r2).symm]; exact SqT.of e2⟩
    · have hx' := bd x hx
      have hy' := bd y hy
      exact code_inj x y (by rw [hx'.1, hy'.1]) hx'.2 hy'.2 e
  refine ⟨.list ((L.map (·.2)).map tdI), .list ((qs.map (con H)).map tdI), .lst (SqL.of h1) (dp_all1 fun z hz => ?_), .lst (SqL.of h2) (dp_all2 fun t ht => ?_), shaped_ld _, shaped_ld _, ?_⟩
  · obtain ⟨row, _, e⟩ := hL z hz
    exact ⟨row, e⟩
  · obtain ⟨row, _, e⟩ := qm t ht
    exact ⟨row, e⟩
  · rw [eA, SeqAt.eqv_refl _ (lay_ld _)]
    exact q
end
end K58

/-! K58I: _law_small. -/
namespace K58
open PySem PySem.Spec PyProof.Rows L2
theorem menus_length (h : List Nat) (k : Nat) : (menus h k).length = k := by
  unfold menus; rw [List.length_map, List.length_range]
theorem menus_get {h : List Nat} {k i : Nat} {m : List Nat} (e : (menus h k)[i]? = some m) : m = up h (i + 1) := by
  unfold menus at e
  rw [List.getElem?_map] at e
  cases e2 : (List.range k)[i]? with
  | none => rw [e2] at e; cases e
  | some j =>
    rw [e2] at e
    have := List.getElem?_eq_some_iff.mp e2
    obtain ⟨hi, hj⟩ := this
    rw [List.getElem_range] at hj
    subst hj
    exact (Option.some.inj e).symm
theorem menus_small {h : List Nat} (H : Hist h) {k : Nat} (hk : k ≤ 5) : ∀ m ∈ menus h k, m.length ≤ 5 := by
  intro m hm
  obtain ⟨i, hi, e⟩ := List.getElem_of_mem hm
  have q := menus_get (h := h) (k := k) (i := i) (m := m) (by rw [List.getElem?_eq_getElem hi, e])
  rw [menus_length] at hi
  have := up_len H (i + 1)
  rw [q]
  omega
theorem lsts_of {H : Hp} {e : Addr} {h : List Nat} {rs : List Addr} (E : IsE H e h rs) : Lsts H (rs.drop 1) (menus h h.length) := by
  have hl := E.len
  refine paired_of (by rw [List.length_drop, menus_length]; omega) fun i a m ha hm => ?_
  rw [menus_get hm]
  rw [List.getElem?_drop, Nat.add_comm] at ha
  exact E.at_ (i + 1) a ha
theorem evn_len (n : Nat) : (evn n).length ≤ n := by
  unfold evn sliceRange
  have h2 : (2 : Int) > 0 := by decide
  simp only [h2, if_true]
  by_cases h3 : (0 : Int) < (n : Int)
  · simp only [h3, if_true]
    rw [List.length_map, List.length_range]
    omega
  · simp only [h3, if_false]
    first
    | exact Nat.zero_le _
    | (rw [List.length_map, List.length_range]; omega)
theorem rf_drop (rs : List Addr) (n : Nat) : (rf rs).drop n = rf (rs.drop n) := List.map_drop.symm
theorem rf_pick (rs : List Addr) (js : List Nat) : js.filterMap ((rf rs)[·]?) = rf (js.filterMap (rs[·]?)) := by
  induction js with
  | nil => rfl
  | cons j js ih =>
    rw [List.filterMap_cons, List.filterMap_cons, ih]
    unfold rf
    rw [List.getElem?_map]
    cases rs[j]? with
    | none => rfl
    | some r => rfl
theorem pick_sub {α : Type} {l : List α} {js : List Nat} {x : α} (h : x ∈ js.filterMap (l[·]?)) : x ∈ l := by
  obtain ⟨j, _, e⟩ := List.mem_filterMap.mp h
  exact List.mem_of_getElem? e
theorem rg_vn (n : Nat) : rgV 1 ((n : Int) + 1) = vn ((List.range n).map (· + 1)) := by
  unfold rgV vn
  rw [List.map_map, show ((n : Int) + 1 - 1).toNat = n by omega]
  refine List.map_congr_left fun i _ => ?_
  show V.int (1 + (i : Int)) = V.int ((i + 1 : Nat) : Int)
  congr 1
  omega
theorem rep_ref (k : Nat) (m : Addr) : (List.replicate k [V.ref m]).flatten = rf (List.replicate k m) := by
  induction k with
  | zero => rfl
  | succ k ih => rw [List.replicate_succ, List.flatten_cons, ih, List.replicate_succ]; rfl
theorem lsts_rep {H : Hp} {m : Addr} {M : List Nat} (h : H m = some (.lst (vn M))) : ∀ k, Lsts H (List.replicate k m) (List.replicate k M)
  | 0 => .nil
  | k + 1 => by
    rw [List.replicate_succ, List.replicate_succ]
    exact .cons h (lsts_rep h k)
theorem pw_few {α : Type} {R : α → α → Prop} : ∀ {l : List α}, l.length ≤ 1 → l.Pairwise R
  | [], _ => .nil
  | [x], _ => List.pairwise_singleton R x
theorem bas_bd {h b : List Nat} (H : Hist h) (B : Bas h b) (hl : h.length ≤ 40) : TS.Bd 64 (inz b) := by
  intro m hm
  unfold inz at hm
  obtain ⟨x, hx, e⟩ := List.mem_map.mp hm
  obtain ⟨i, hi, ei⟩ := List.getElem_of_mem hx
  have q := B.2 i x (by rw [List.getElem?_eq_getElem hi, ei])
  have := up_lt H _ _ q
  have := B.1
  omega
theorem inz_vn (row : List Nat) : (inz row).map V.int = vn row := (vn_ints row).symm
section
variable {P : Program} {w : World} {K : PySem.W.Frag} {mg : Str → Option Value} {base : Heap}
def spSmall (K : PySem.W.Frag) : Sp := fun vs H Q _ => ∃ (a : Addr) (h : List Nat), vs = [.ref a] ∧ SqT K H a (vn h) ∧ Hist h ∧ h.length ≤ 5 ∧ RetV (.bl true) H Q
/-- sorted of the set of what was found, and of the plans: equal -/
theorem small_end {H : Hp} {F q : Addr} {ts ps : List Addr} {FL RP : List (List Nat)} {n : Nat} {Q : VK} (hF : H F = some (.lst (rf ts))) (tF : Tups H ts FL) (hq : H q = some (.lst (rf ps))) (tP : Tups H ps RP)
    (hsame : ∀ x, x ∈ FL ↔ x ∈ RP) (nR : RP.Nodup) (few : RP.length ≤ 24) (hd : ∀ row ∈ RP, row.length = n ∧ TS.Bd 64 (inz row)) (h0 : n = 0 → RP.length ≤ 1) (k : RetV (.bl true) H Q) :
    rSet58 K P w [V.ref F] H (fun v H1 => rSortS58 K P w [v] H1 (fun v1 H2 => ∃ vq, some (some (V.ref q)) = some (some vq) ∧ rSortL58 K [vq] H2 (fun v2 H3 => rEqD K v1 v2 H3 Q))) := by
  obtain ⟨tt, e1, e2, e3⟩ := tups_tt tF
  have hpl := tP.length
  refine ⟨F, tt, RP.map inz, rfl, SqL.of (by rw [← e1]; exact hF), fun p hp => ?_, fun p hp => ?_, by rw [List.length_map]; omega, fun sa L nS g1 g2 g3 => ?_⟩
  · obtain ⟨row, _, e, h⟩ := e2 p hp
    rw [e, inz_vn]
    exact SqT.of h
  · obtain ⟨row, hr, e, h⟩ := e2 p hp
    rw [e]
    exact List.mem_map.mpr ⟨row, (hsame row).mp hr, rfl⟩
  have s1 := Same.new (o := SetTO P w sa L) nS
  have hS1 : (upd H sa (SetTO P w sa L)) sa = some (SetTO P w sa L) := upd_same
  have hq1 := s1 _ _ hq
  have tP1 := tups_same tP s1
  have hL : ∀ z ∈ L, ∃ row ∈ RP, z.2 = inz row ∧ (upd H sa (SetTO P w sa L)) z.1 = some (.tup (vn row)) := fun z hz => by
    obtain ⟨row, hr, e, h⟩ := e2 z (g1 z hz)
    exact ⟨row, (hsame row).mp hr, e, s1 _ _ h⟩
  have hR : ∀ row ∈ RP, inz row ∈ L.map (·.2) := fun row hr => by
    obtain ⟨p, hp, e⟩ := e3 row ((hsame row).mpr hr)
    rw [← e]
    exact g2 p hp
  have hLl : L.length ≤ RP.length := by
    have := nodup_fits (L.map (·.2)) (RP.map inz) g3 fun x hx => by
      obtain ⟨z, hz, e⟩ := List.mem_map.mp hx
      obtain ⟨row, hr, e', _⟩ := hL z hz
      rw [← e, e']
      exact List.mem_map.mpr ⟨row, hr, rfl⟩
    rw [List.length_map, List.length_map] at this
    exact this
  generalize upd H sa (SetTO P w sa L) = H1 at s1 hS1 hq1 tP1 hL
  have hT1 : ∀ z ∈ L, SqT K H1 z.1 (z.2.map V.int) := fun z hz => by
    obtain ⟨row, _, e, h⟩ := hL z hz
    rw [e, inz_vn]
    exact SqT.of h
  -- the second list, whatever the first
  have second : ∀ (p1 : Addr) (H2 : Hp) (L' : List (Addr × List Int)), H1 p1 = none → Same H1 H2 → H2 p1 = some (.lst (L'.map fun q => V.ref q.1)) → L'.Perm L → (L'.map (·.2)).Nodup → L'.Pairwise (fun q r => TS.code 64 q.2 ≤ TS.code 64 r.2) →
      rSortL58 K [V.ref q] H2 (fun v2 H3 => rEqD K (.ref p1) v2 H3 Q) := fun p1 H2 L' np1 s2 h1 pm nd pw => by
    have hq2 := s2 _ _ hq1
    have tP2 := tups_same tP1 s2
    have hL2 : ∀ z ∈ L', ∃ row ∈ RP, z.2 = inz row ∧ H2 z.1 = some (.tup (vn row)) := fun z hz => by
      obtain ⟨row, hr, e, h⟩ := hL z (pm.mem_iff.mp hz)
      exact ⟨row, hr, e, s2 _ _ h⟩
    have hR2 : ∀ row ∈ RP, inz row ∈ L'.map (·.2) := fun row hr => (pm.map (·.2)).mem_iff.mpr (hR row hr)
    have done : ∀ (p2 : Addr) (ys : List V), H2 p2 = none → ys.Perm (rf ps) → ys.Pairwise (fun x y => ∀ n m, TupI K (upd H2 p2 (.lst ys)) x n → TupI K (upd H2 p2 (.lst ys)) y m → TS.code 64 n ≤ TS.code 64 m) →
        rEqD K (.ref p1) (.ref p2) (upd H2 p2 (.lst ys)) Q := fun p2 ys np2 hy py => by
      have s3 := Same.new (o := .lst ys) np2
      exact eq_sorted (K := K) (s3 _ _ h1) upd_same (fun z hz => by
        obtain ⟨row, hr, e, h⟩ := hL2 z hz
        exact ⟨row, hr, e, s3 _ _ h⟩) hR2 nd pw hy (tups_same tP2 s3) nR py hd (k _ ((s1.trans s2).trans s3))
    by_cases c : n = 0
    · have := h0 c
      exact .inl ⟨q, rf ps, rfl, SqL.of hq2, by rw [rf_len]; omega, fun p2 np2 => done p2 _ np2 (List.Perm.refl _) (pw_few (by rw [rf_len]; omega))⟩
    · refine .inr ⟨n, 64, by omega, q, rf ps, rfl, SqL.of hq2, by rw [rf_len]; omega, fun x hx => ?_, fun ys p2 hy py np2 => done p2 ys np2 hy ?_⟩
      · obtain ⟨t, ht, e⟩ := List.mem_map.mp hx
        obtain ⟨row, hr, h⟩ := tups_mem tP2 t ht
        have := hd row hr
        refine ⟨inz row, ⟨t, e.symm, by rw [inz_vn]; exact SqT.of h⟩, ?_, this.2⟩
        unfold inz
        rw [List.length_map]; exact this.1
      · -- what stands in H2 stands in the next heap
        have s3 := Same.new (o := .lst ys) np2
        refine List.Pairwise.imp_of_mem (fun {x y} hx hy' h n m tn tm => ?_) py
        have back : ∀ z ∈ ys, ∀ n, TupI K (upd H2 p2 (.lst ys)) z n → ∃ n', TupI K H2 z n' ∧ n' = n := fun z hz n tn => by
          obtain ⟨t, ht, e⟩ := List.mem_map.mp (hy.mem_iff.mp hz)
          obtain ⟨row, hr, h⟩ := tups_mem tP2 t ht
          obtain ⟨t', e', hs⟩ := tn
          refine ⟨n, ⟨t', e', ?_⟩, rfl⟩
          have et : t = t' := by
            rw [← e] at e'
            injection e'
          subst et
          rcases hs with (hs | ⟨o, hs⟩) | hs
          · rw [s3 _ _ h] at hs
            exact .inl (.inl (by rw [h]; exact hs))
          · rw [s3 _ _ h] at hs
            cases hs
          · exact .inr hs
        obtain ⟨_, t1, rfl⟩ := back x hx n tn
        obtain ⟨_, t2, rfl⟩ := back y hy' m tm
        exact h _ _ t1 t2
  by_cases c : n = 0
  · have := h0 c
    refine .inl ⟨sa, L, rfl, hS1, hT1, by omega, fun p1 np1 => ?_⟩
    exact ⟨_, rfl, second p1 _ L np1 (Same.new np1) upd_same (List.Perm.refl _) g3 (pw_few (by omega))⟩
  · refine .inr ⟨sa, L, n, 64, rfl, hS1, hT1, by omega, fun z hz => ?_, fun L' p1 pm nd _ pw np1 => ?_⟩
    · obtain ⟨row, hr, e, _⟩ := hL z hz
      have := hd row hr
      rw [e]
      refine ⟨?_, this.2⟩
      unfold inz
      rw [List.length_map]; exact this.1
    · exact ⟨_, rfl, second p1 _ L' np1 (Same.new np1) upd_same pm nd pw⟩
theorem ok_law_small (B : Bl mg) (D : Dn K mg "_law_small" s_law_small ["_law_history_here"]) (C1 : Ok P w K mg base "_law_elders" ["_law_history_here"] 1 (spElders K)) (C2 : Ok P w K mg base "_law_all_rows" ["_law_menus"] 1 (spRows K))
    (C3 : Ok P w K mg base "_law_led_right" ["_law_history_here", "_law_elders_here", "_law_bases"] 9 (spXR K)) (C4 : Ok P w K mg base "_law_crossing" ["_law_elders_here", "_law_bases"] 1 (spCrossL K)) (C5 : Ok P w K mg base "_law_higher" ["_law_heights_here", "_law_elders_here"] 1 (spHigher K)) :
    Ok P w K mg base "_law_small" ["_law_history_here"] 10 (spSmall K) := by
  obtain ⟨f, fd, F, g, b⟩ := D.ex
  obtain ⟨f_law_elders, fd_law_elders, g_law_elders, k_law_elders, b_law_elders, G_law_elders⟩ := C1.ex
  obtain ⟨f_law_all_rows, fd_law_all_rows, g_law_all_rows, k_law_all_rows, b_law_all_rows, G_law_all_rows⟩ := C2.ex
  obtain ⟨f_law_led_right, fd_law_led_right, g_law_led_right, k_law_led_right, b_law_led_right, G_law_led_right⟩ := C3.ex
  obtain ⟨f_law_crossing, fd_law_crossing, g_law_crossing, k_law_crossing, b_law_crossing, G_law_crossing⟩ := C4.ex
  obtain ⟨f_law_higher, fd_law_higher, g_law_higher, k_law_higher, b_law_higher, G_law_higher⟩ := C5.ex
  have sc := sc_law_small
  refine ⟨f, fd, g, F.kp, b, F.ok sc (fun vs H Q E h => ?_) (fun cdv A outer s H vs Q E hr h => ?_)⟩
  · obtain ⟨a, l, rfl, _⟩ := h
    rfl
  · obtain ⟨a, l, rfl, hS, hH, hl, k⟩ := h
    refine ⟨_, (pss_cons (ps_set (i := 1) sc.nd rfl (Or.inr rfl) (pe_call G_law_elders (hr.mono (by decide)) (by rfl) g_law_elders k_law_elders b_law_elders .nil pass0 (pa_cons (pv 0) pa_nil)))
    (pss_cons (ps_set (i := 2) sc.nd rfl (Or.inl rfl) (pe_lst pa_nil))
    (pss_cons (ps_set (i := 3) sc.nd rfl (Or.inl rfl) (pe_call G_law_all_rows (hr.mono (by decide)) (by rfl) g_law_all_rows k_law_all_rows b_law_all_rows .nil pass0 (pa_cons (pe_slice sl_list (pv 1) (po_some pe_int) po_none) pa_nil)))
    (Evl.pss_cut (ps_if (pt_cmpR op_gt (pe_callB call_len_seq (by rfl) B.n_len PySem.boot_len (pa_cons (pv 3) pa_nil)) pe_int (nomark _)) (pss_one (ps_set (i := 3) sc.nd rfl (Or.inl rfl) (pe_evenL (pv 3)))) pss_nil)
    (pss_cons (ps_for PassesOwn.never rfl (pi_list (pv 3)) (pg_name (i := 4) sc.nd rfl (Or.inl rfl))
      (pss_cons (ps_if (pt_not (pt_val (pe_call G_law_led_right (hr.mono (by decide)) (by rfl) g_law_led_right k_law_led_right b_law_led_right .nil pass0 (pa_cons (pv 0) (pa_cons (pv 1) (pa_cons (pv 4) pa_nil)))))) (pss_one (ps_ret pe_bl)) pss_nil)
    (pss_one (ps_if (pt_cmpR op_isN (pe_call G_law_crossing (hr.mono (by decide)) (by rfl) g_law_crossing k_law_crossing b_law_crossing .nil pass0 (pa_cons (pv 1) (pa_cons (pv 4) pa_nil))) pe_non (nomark _)) (pss_one (ps_expr (pe_bm PySem.F.plainAttrs_list PySem.F.slot_list_append PySem.F.type_list_append mt_append (pv 2) (pa_cons (pv 4) pa_nil)))) pss_nil))))
    (pss_cons (ps_if (pt_cmpR op_gt (pe_callB call_len_seq (by rfl) B.n_len PySem.boot_len (pa_cons (pv 0) pa_nil)) pe_int (nomark _)) (pss_one (ps_ret (pe_cmpR op_gt (pe_callB call_len_seq (by rfl) B.n_len PySem.boot_len (pa_cons (pv 2) pa_nil)) pe_int (nomark _)))) pss_nil)
    (pss_cons (ps_set (i := 5) sc.nd rfl (Or.inl rfl) (pe_listRg rfl (by rfl) B.n_list (prg_2 (by rfl) B.n_range pe_int (pe_op op_add (pe_callB call_len_seq (by rfl) B.n_len PySem.boot_len (pa_cons (pv 0) pa_nil)) pe_int))))
    (pss_cons (ps_setLc (i := 6) (own := [("_law_heights_here", 7)]) rfl sc.nd rfl rfl (sw_true rfl rfl rfl (by decide +kernel)) (pi_list (pe_call G_law_all_rows (hr.mono (by decide)) (by rfl) g_law_all_rows k_law_all_rows b_law_all_rows .nil pass0 (pa_cons (pe_op op_rep (pe_lst (pa_cons (pv 5) pa_nil)) (pe_callB call_len_seq (by rfl) B.n_len PySem.boot_len (pa_cons (pv 0) pa_nil))) pa_nil))) (blkOk_by (N := N_law_small) (sc := defScope s_law_small) (by decide +kernel)) (fun _ _ _ _ _ => pg_name (i := 7) sc.nd rfl (Or.inl rfl)) (fun _ _ _ _ _ => pts_nil) (fun _ _ _ _ _ => (pe_call G_law_higher (hr.mono (by decide)) (by rfl) g_law_higher k_law_higher b_law_higher .nil pass0 (pa_cons (pv 7) (pa_cons (pv 1) pa_nil)))))
    (pss_one (ps_ret (pe_cmpR (op_eqD hr.units) (pe_callB (cr_sortedS58 rfl) (by rfl) B.n_sorted (by decide +kernel) (pa_cons (pe_callTy (cr_set58 rfl hr.units) (by rfl) B.n_set (by decide +kernel) (pa_cons (pv 6) pa_nil)) pa_nil)) (pe_callB (cr_sortedL58) (by rfl) B.n_sorted (by decide +kernel) (pa_cons (pv 2) pa_nil)) (nomark _)))))))))))), ?_⟩
    refine ⟨.ref a, rfl, a, l, rfl, hS, hH, by omega, fun e H1 rs n1 s1 hE => ?_⟩
    refine ⟨sizeOk (by show 0 ≤ 100000; decide), fun q nq => ?_⟩
    have s2 := Same.new (o := .lst []) nq
    have hE2 := hE.same s2
    have hq2 : (upd H1 q (.lst [])) q = some (.lst []) := upd_same
    generalize upd H1 q (.lst []) = H2 at s2 hE2 hq2
    refine ⟨.ref e, rfl, 1, rfl, e, rf rs, rfl, SqL.of hE2.lst, fun m nm => ?_⟩
    rw [cut1, rf_drop]
    have s3 := s2.trans (Same.new (o := .lst (rf (rs.drop 1))) nm)
    have hq3 := Same.new (o := .lst (rf (rs.drop 1))) nm _ _ hq2
    have hm3 : (upd H2 m (.lst (rf (rs.drop 1)))) m = some (.lst (rf (rs.drop 1))) := upd_same
    generalize upd H2 m (.lst (rf (rs.drop 1))) = H3 at s3 hq3 hm3
    refine ⟨m, rs.drop 1, menus l l.length, rfl, SqL.of hm3, lsts_of (hE.same s3), by rw [menus_length]; exact hl, menus_small hH hl, fun p H4 rs4 np s4 hp hT => ?_⟩
    have hq4 := s4 _ _ hq3
    have pq : p ≠ q := fun z => by rw [z, hq3] at np; cases np
    have s4 := s3.trans s4
    have hlen := menus_len hH l.length
    have hfac := fac_le l.length hl
    have hTl := hT.length
    have nd := menus_nodup hH l.length
    refine ⟨fun σ H' => ∃ p R rs', σ = [some (.ref a), some (.ref e), some (.ref q), some (.ref p), none, none, none, none] ∧ Same H1 H' ∧ H' q = some (.lst []) ∧ H' p = some (.lst (rf rs')) ∧ p ≠ q ∧ Tups H' rs' R ∧ (∀ x ∈ R, x ∈ rowsOf (menus l l.length)) ∧
      l ∈ R ∧ R.length ≤ 120 ∧ (l.length ≤ 4 → R = rowsOf (menus l l.length)), ?_, fun σ H' z => ?_⟩
    · refine ⟨.ref p, rfl, p, _, rfl, .inl (SqL.of hp), _, _, rfl, rfl, _, rfl, ite2 (fun c => ?_) (fun c => ?_)⟩
      · have d := of_decide_eq_true c
        have big : ¬ l.length ≤ 4 := fun z => by
          have := fac_le4 l.length z
          rw [rf_len] at d
          omega
        refine ⟨.ref p, rfl, p, _, rfl, SqL.of hp, fun p' np' => ?_⟩
        rw [rf_pick]
        have pq' : p' ≠ q := fun z => by rw [z, hq4] at np'; cases np'
        have s5 := Same.new (o := .lst (rf ((evn (rf rs4).length).filterMap (rs4[·]?)))) np'
        have tp := paired_pick hT (evn (rf rs4).length)
        refine ⟨p', _, _, rfl, s4.trans s5, s5 _ _ hq4, upd_same, pq', tups_same tp s5, fun x hx => pick_sub hx, ?_, ?_, fun z => absurd z big⟩
        · refine List.mem_filterMap.mpr ⟨0, evn_zero ?_, ?_⟩
          · omega
          · have := menus_first hH l.length (Nat.le_refl _)
            rw [List.take_length] at this
            exact this
        · refine Nat.le_trans (List.length_filterMap_le _ _) ?_
          have := evn_len (rf rs4).length
          rw [rf_len] at this ⊢
          omega
      · refine ⟨p, _, rs4, rfl, s4, hq4, hp, pq, hT, fun x hx => hx, ?_, by omega, fun _ => rfl⟩
        exact menus_bas.mpr (par_bas hH)
    · obtain ⟨p, R, rs', rfl, sm, hq, hp, pq, hT, hsub, hmem, hR, hall⟩ := z
      have hTl := hT.length
      refine ⟨.ref p, rfl, p, rfl, ⟨_, SqL.of hp⟩, for_list (K := K) (a := p) (xs := rf rs') (fun i σ H' => ∃ y4 ps, σ = [some (.ref a), some (.ref e), some (.ref q), some (.ref p), y4, none, none, none] ∧ Same H1 H' ∧ H' q = some (.lst (rf ps)) ∧ H' p = some (.lst (rf rs')) ∧ Tups H' rs' R ∧
        Tups H' ps ((R.take i).filter fun b => decide (crossP l b = none))) ⟨none, [], rfl, sm, hq, hp, hT, .nil⟩ (fun i σ H' _ ⟨_, _, _, _, _, z, _⟩ => SqL.of z) (fun i x σ H' hx z => ?_) (fun σ H' z => ?_)⟩
      · obtain ⟨y4, ps, rfl, sm, hq, hp, hT, hP⟩ := z
        obtain ⟨r, hr, rfl⟩ := rf_of hx
        obtain ⟨b, hb, hrb⟩ := paired_get hT hr
        have hB : Bas l b := menus_bas.mp (hsub b (List.mem_of_getElem? hb))
        have hPl := hP.length
        have hfl := filt_take_len (fun b => decide (crossP l b = none)) R i
        refine ⟨.ref a, rfl, .ref e, rfl, .ref r, rfl, a, e, r, l, b, rs, rfl, (s1.trans sm).t hS, hE.same sm, SqT.of hrb, hH, hB, by omega, fun H5 s5 => ⟨true, rfl, iteF ?_⟩⟩
        have hq := s5 _ _ hq
        have hp := s5 _ _ hp
        have hT := tups_same hT s5
        have hP := tups_same hP s5
        have hrb := s5 _ _ hrb
        have sm := sm.trans s5
        refine ⟨.ref e, rfl, .ref r, rfl, e, r, l, b, rs, rfl, hE.same sm, SqT.of hrb, hH, hB, by omega, fun hn H6 s6 => ?_, fun v z hv p6 H6 n6 s6 e6 => ?_⟩
        · have hq := s6 _ _ hq
          have hp := s6 _ _ hp
          have hT := tups_same hT s6
          have hP := tups_same hP s6
          have hrb := s6 _ _ hrb
          have sm := sm.trans s6
          refine ⟨rfl, true, congrArg V.bl isNT, iteT ⟨.ref q, rfl, .inl ⟨rfl, _, SqL.of hq⟩, .ref r, rfl, q, _, _, rfl, rfl, hq, sizeLt (by rw [rf_len]; omega), ?_⟩⟩
          refine ⟨_, ps ++ [r], rfl, Same.mut sm nq, by rw [upd_same, rf_snoc], by rw [upd_ne pq]; exact hp, tups_upd hT hq, ?_⟩
          rw [filt_yes hb (decide_eq_true hn)]
          exact paired_app (tups_upd hP hq) (.cons (by rw [upd_ne (ne_of hrb hq (fun z => by cases z))]; exact hrb) .nil)
        · have hq := s6 _ _ hq
          have hp := s6 _ _ hp
          have hT := tups_same hT s6
          have hP := tups_same hP s6
          have sm := sm.trans s6
          refine ⟨rfl, false, congrArg V.bl (isNF p6), iteF ?_⟩
          refine ⟨_, ps, rfl, sm, hq, hp, hT, ?_⟩
          rw [filt_no hb (by rw [hv]; exact fun z => by cases of_decide_eq_true z)]
          exact hP
      · obtain ⟨y4, ps, rfl, sm, hq, hp, hT, hP⟩ := z
        rw [rf_len, hTl, List.take_length] at hP
        have hPl := hP.length
        refine ⟨.ref a, rfl, a, _, rfl, .inr ((s1.trans sm).t hS), _, _, rfl, rfl, _, rfl, ite2 (fun c => ?_) (fun c => ?_)⟩
        · refine ⟨.ref q, rfl, q, _, rfl, .inl (SqL.of hq), _, _, rfl, rfl, ?_⟩
          have pos : 0 < (R.filter fun b => decide (crossP l b = none)).length := List.length_pos_of_mem (List.mem_filter.mpr ⟨hmem, decide_eq_true (par_plan hH)⟩)
          show Q (V.bl (decide ((0 : Int) < ((rf ps).length : Int)))) H'
          rw [decide_eq_true (by rw [rf_len]; omega)]
          exact k _ (s1.trans sm)
        · have h4 : l.length ≤ 4 := by
            by_cases z : l.length ≤ 4
            · exact z
            · exact absurd (decide_eq_true (by rw [vn_len]; omega)) c
          have eR := hall h4
          subst eR
          have few := fac_le4 l.length h4
          have hfil := List.length_filter_le (fun b => decide (crossP l b = none)) (rowsOf (menus l l.length))
          refine ⟨.ref a, rfl, a, _, rfl, .inr ((s1.trans sm).t hS), _, _, rfl, rfl, _, _, rfl, rfl, ⟨by omega, by omega, by rw [vn_len]; omega, by rw [vn_len]; omega, by rw [vn_len]; omega⟩, fun mn nmn => ?_⟩
          rw [vn_len, rg_vn]
          have s5 := Same.new (o := .lst (vn ((List.range l.length).map (· + 1)))) nmn
          have hq := s5 _ _ hq
          have hP := tups_same hP s5
          have sm := sm.trans s5
          have hmn : (upd H' mn (.lst (vn ((List.range l.length).map (· + 1))))) mn = some (.lst (vn ((List.range l.length).map (· + 1)))) := upd_same
          generalize upd H' mn (.lst (vn ((List.range l.length).map (· + 1)))) = H5 at s5 hq hP sm hmn
          -- the menus, n times
          refine ⟨.ref mn, rfl, sizeOk (by show 1 ≤ 100000; decide), fun t nt => ?_⟩
          have s6 := Same.new (o := .lst [.ref mn]) nt
          have hq := s6 _ _ hq
          have hP := tups_same hP s6
          have sm := sm.trans s6
          have hmn := s6 _ _ hmn
          have ht : (upd H5 t (.lst [.ref mn])) t = some (.lst [.ref mn]) := upd_same
          generalize upd H5 t (.lst [.ref mn]) = H6 at s6 hq hP sm hmn ht
          refine ⟨.ref a, rfl, a, _, rfl, .inr ((s1.trans sm).t hS), t, _, _, rfl, rfl, ht, by omega, by rw [vn_len]; omega, sizeOk ?_, fun mm nmm => ?_⟩
          · show 1 * ((vn l).length : Int).toNat ≤ 100000
            rw [vn_len]
            omega
          have ek : (((vn l).length : Nat) : Int).toNat = l.length := by rw [vn_len]; omega
          rw [ek, rep_ref]
          have s7 := Same.new (o := .lst (rf (List.replicate l.length mn))) nmm
          have hq := s7 _ _ hq
          have hP := tups_same hP s7
          have sm := sm.trans s7
          have hmn := s7 _ _ hmn
          have hmm : (upd H6 mm (.lst (rf (List.replicate l.length mn)))) mm = some (.lst (rf (List.replicate l.length mn))) := upd_same
          generalize upd H6 mm (.lst (rf (List.replicate l.length mn))) = H7 at s7 hq hP sm hmn hmm
          refine ⟨mm, _, List.replicate l.length ((List.range l.length).map (· + 1)), rfl, SqL.of hmm, lsts_rep hmn _, by rw [List.length_replicate]; omega, fun x hx => ?_, fun pr H8 rows npr s8 hpr hRows => ?_⟩
          · rw [(List.mem_replicate.mp hx).2, List.length_map, List.length_range]
            omega
          have hq := s8 _ _ hq
          have hP := tups_same hP s8
          have sm := sm.trans s8
          have hrl := hRows.length
          have rfew : (rowsOf (List.replicate l.length ((List.range l.length).map (· + 1)))).length ≤ 3125 := by
            have := rows_few (ms := List.replicate l.length ((List.range l.length).map (· + 1))) (fun x hx => by rw [(List.mem_replicate.mp hx).2, List.length_map, List.length_range]; omega) (by rw [List.length_replicate]; omega) (i := l.length) (by rw [List.length_replicate]; exact Nat.le_refl _)
            rw [List.take_of_length_le (by rw [List.length_replicate]; exact Nat.le_refl _)] at this
            exact this
          have hiff := found_iff hH
          generalize hG : rowsOf (List.replicate l.length ((List.range l.length).map (· + 1))) = G at hRows hrl rfew hiff
          have hGl : ∀ x ∈ G, x.length = l.length := fun x hx => by
            rw [← hG] at hx
            exact ((rep_mem _ _).mp hx).1
          refine ⟨pr, rfl, ⟨_, SqL.of hpr⟩, fun Dl nD => ?_⟩
          refine lc_it (walk_list (K := K) (a := pr) (xs := rf rows)) (fun c H9 => Same H8 H9 ∧ ∃ us, H9 Dl = some (.lst (rf us)) ∧ Tups H9 us ((G.take c).map (higher l))) ⟨Same.new nD, [], upd_same, .nil⟩
            (fun c H9 _ z => SqL.of (z.1 _ _ hpr)) (fun c x H9 H'' hc z y => ?_) (fun H9 z => ?_)
          · obtain ⟨rfl, hx⟩ := y
            obtain ⟨r, hr, rfl⟩ := rf_of hx
            obtain ⟨hs, hg, hrt⟩ := paired_get hRows hr
            obtain ⟨s9, us, hD9, hU9⟩ := z
            have hul := hU9.length
            rw [List.length_map, List.length_take] at hul
            refine ⟨rfl, .ref r, rfl, .ref e, rfl, r, e, l, hs, rs, rfl, SqT.of (s9 _ _ hrt), hE.same (sm.trans s9), hH, hGl hs (List.mem_of_getElem? hg), by omega, fun u H10 nu s10 hu => ?_⟩
            have hD10 := s10 _ _ hD9
            refine ⟨rf us, hD10, sizeLt (by rw [rf_len]; omega), Same.mut (s9.trans s10) nD, us ++ [u], by rw [upd_same, rf_snoc], ?_⟩
            rw [take_snoc hg, List.map_append]
            exact paired_app (tups_upd (tups_same hU9 s10) hD10) (.cons (by rw [upd_ne (ne_of hu hD10 (fun z => by cases z))]; exact hu) .nil)
          · obtain ⟨s9, us, hD9, hU9⟩ := z
            rw [rf_len, hrl, List.take_length] at hU9
            have hq := s9 _ _ hq
            have hP := tups_same hP s9
            have sm := sm.trans s9
            refine ⟨.ref Dl, rfl, ?_⟩
            have nP : ((rowsOf (menus l l.length)).filter fun b => decide (crossP l b = none)).Nodup := List.Pairwise.filter _ (menus_nodup hH l.length)
            have fin := small_end (P := P) (w := w) (K := K) (n := l.length) hD9 hU9 hq hP (fun x => by
              rw [← hiff x, List.mem_map]
              constructor
              · rintro ⟨y, h1, h2⟩
                exact ⟨y, h1, h2.symm⟩
              · rintro ⟨y, h1, h2⟩
                exact ⟨y, h1, h2.symm⟩) nP (by omega) (fun row hr => ?_) (fun z => ?_) (fun H10 s10 => k _ (((s1.trans sm)).trans s10))
            · exact fin
            · have hB : Bas l row := menus_bas.mp (List.mem_filter.mp hr).1
              exact ⟨hB.1, bas_bd hH hB (by omega)⟩
            · have := menus_len hH l.length
              rw [z] at this
              have e1 : fac 0 = 1 := rfl
              rw [z] at hfil ⊢
              omega
end
end K58

/-! K58J: the feed: _law_feed, _law_next, _law_history. -/
namespace K58
open PySem PySem.Spec PyProof.Rows L2
abbrev s_law_feed : Stmt := topS 35
abbrev N_law_feed : List Str := ["_law_script", "_law_state", "_law_cell"]
theorem sc_law_feed : FnScope N_law_feed ["_law_script"] (defScope s_law_feed) := ⟨rfl, rfl, rfl, by decide +kernel, rfl, by decide +kernel, by decide +kernel⟩
abbrev s_law_next : Stmt := topS 36
abbrev N_law_next : List Str := ["_law_feed_here", "_law_many", "_law_cell", "_law_rest"]
theorem sc_law_next : FnScope N_law_next ["_law_feed_here", "_law_many"] (defScope s_law_next) := ⟨rfl, rfl, rfl, by decide +kernel, rfl, by decide +kernel, by decide +kernel⟩
abbrev s_law_history : Stmt := topS 37
abbrev N_law_history : List Str := ["_law_feed_here", "_law_many", "_law_shape", "_law_parents", "_law_v"]
theorem sc_law_history : FnScope N_law_history ["_law_feed_here", "_law_many"] (defScope s_law_history) := ⟨rfl, rfl, rfl, by decide +kernel, rfl, by decide +kernel, by decide +kernel⟩
/-- a feed of the numbers xs stands at q, its own list at L -/
structure Feed (H : Hp) (q L : Addr) (xs : List Int) : Prop where
  own : H L = some (.lst (xs.map V.int))
  ex : ∃ i r t : Int, H q = some (.lst [.ref L, .int i, .int r, .int t]) ∧ 0 ≤ i ∧ 0 ≤ r ∧ 0 ≤ t ∧ t < 999983
/-- all but q stands as it stood -/
def Keep (q : Addr) (H H' : Hp) : Prop := ∀ b o, b ≠ q → H b = some o → H' b = some o
theorem Keep.of {q : Addr} {H H' : Hp} (s : Same H H') : Keep q H H' := fun b o _ e => s b o e
theorem Keep.refl {q : Addr} {H : Hp} : Keep q H H := fun _ _ _ e => e
theorem Keep.trans {q : Addr} {H H1 H2 : Hp} (a : Keep q H H1) (b : Keep q H1 H2) : Keep q H H2 := fun c o n e => b c o n (a c o n e)
theorem Keep.set {q : Addr} {H H' : Hp} {o : HO} (a : Keep q H H') : Keep q H (upd H' q o) := fun b u n e => by
  rw [upd_ne n]; exact a b u n e
theorem Keep.mut {q p : Addr} {H H' : Hp} {o : HO} (a : Keep q H H') (h : H p = none) : Keep q H (upd H' p o) := fun b u n e => by
  rw [upd_ne (ne_of_none e h)]; exact a b u n e
theorem Keep.free {q p : Addr} {H H' : Hp} (a : Keep q H H') (h : H' p = none) (n : p ≠ q) : H p = none := by
  cases e : H p with
  | none => rfl
  | some o =>
    have := a p o n e
    rw [h] at this; cases this
theorem Feed.same {H H' : Hp} {q L : Addr} {xs : List Int} (F : Feed H q L xs) (s : Same H H') : Feed H' q L xs :=
  ⟨s _ _ F.own, by
    obtain ⟨i, r, t, e, z⟩ := F.ex
    exact ⟨i, r, t, s _ _ e, z⟩⟩
theorem Feed.ne {H : Hp} {q L p : Addr} {xs : List Int} (F : Feed H q L xs) (h : H p = none) : p ≠ q := fun z => by
  obtain ⟨i, r, t, e, _⟩ := F.ex
  rw [z, e] at h; cases h
theorem Feed.neL {H : Hp} {q L p : Addr} {xs : List Int} (F : Feed H q L xs) (h : H p = none) : p ≠ L := fun z => by
  have := F.own
  rw [z, this] at h; cases h
theorem Feed.mut {H : Hp} {q L p : Addr} {xs : List Int} {o : HO} (F : Feed H q L xs) (n : p ≠ q) (n2 : p ≠ L) : Feed (upd H p o) q L xs :=
  ⟨by rw [upd_ne n2.symm]; exact F.own, by
    obtain ⟨i, r, t, e, z⟩ := F.ex
    exact ⟨i, r, t, by rw [upd_ne n.symm]; exact e, z⟩⟩
theorem Feed.notTup {H : Hp} {q L b : Addr} {xs : List Int} {ys : List V} (F : Feed H q L xs) (h : H b = some (.tup ys)) : b ≠ q := by
  obtain ⟨i, r, t, e, _⟩ := F.ex
  exact ne_of h e (fun z => by cases z)
theorem Feed.notVn {H : Hp} {q L b : Addr} {xs : List Int} {ns : List Nat} (F : Feed H q L xs) (h : H b = some (.lst (vn ns))) : b ≠ q := by
  obtain ⟨i, r, t, e, _⟩ := F.ex
  refine ne_of h e (fun z => ?_)
  injection z with z
  obtain ⟨x, _, e2⟩ := vn_of (ns := ns) (i := 0) (by rw [z]; rfl)
  cases e2
theorem Feed.notRf {H : Hp} {q L b : Addr} {xs : List Int} {rs : List Addr} (F : Feed H q L xs) (h : H b = some (.lst (rf rs))) : b ≠ q := by
  obtain ⟨i, r, t, e, _⟩ := F.ex
  refine ne_of h e (fun z => ?_)
  injection z with z
  obtain ⟨x, _, e2⟩ := rf_of (rs := rs) (i := 1) (by rw [z]; rfl)
  cases e2
theorem IsE.keep {H H' : Hp} {e q L : Addr} {h : List Nat} {rs : List Addr} {xs : List Int} (E : IsE H e h rs) (F : Feed H q L xs) (s : Keep q H H') : IsE H' e h rs :=
  ⟨s _ _ (F.notRf E.lst) E.lst, E.len, fun v r g => s _ _ (F.notVn (E.at_ v r g)) (E.at_ v r g)⟩
theorem nat_of {i : Int} (h : 0 ≤ i) : ∃ n : Nat, i = (n : Int) := ⟨i.toNat, by omega⟩
theorem mod_nat {a : Int} {n : Nat} (h : 1 ≤ n) : ∃ r : Nat, r < n ∧ a % (n : Int) = (r : Int) := by
  have h1 := Int.emod_nonneg a (show (n : Int) ≠ 0 by omega)
  have h2 := Int.emod_lt_of_pos a (show (0 : Int) < (n : Int) by omega)
  obtain ⟨r, e⟩ := nat_of h1
  exact ⟨r, by omega, e⟩
theorem pick_nat {ns : List Nat} {r : Nat} (h : r < ns.length) : ∃ x, x ∈ ns ∧ atI (vn ns) (r : Int) = some (.int (x : Int)) := ⟨ns[r], List.getElem_mem h, nat_ix (List.getElem?_eq_getElem h)⟩
theorem wide1 : CMulW (10 ^ (64 : Int).toNat) (10 ^ (64 : Int).toNat) := by
  unfold CMulW; decide +kernel
theorem wide2 : CMulW (10 ^ (64 : Int).toNat * 10 ^ (64 : Int).toNat) (10 ^ (64 : Int).toNat) := by
  unfold CMulW; decide +kernel
theorem big_pos : (0 : Int) < 10 ^ (64 : Int).toNat * 10 ^ (64 : Int).toNat * 10 ^ (64 : Int).toNat := by decide +kernel
section
variable {P : Program} {w : World} {K : PySem.W.Frag} {mg : Str → Option Value} {base : Heap}
def spFeed (K : PySem.W.Frag) : Sp := fun vs H Q _ => ∃ (a : Addr) (ns : List Int), vs = [.ref a] ∧ SqL K H a (ns.map V.int) ∧ ∀ q L H', H q = none → Same H H' → Feed H' q L ns → Q (.ref q) H'
theorem ok_law_feed (B : Bl mg) (D : Dn K mg "_law_feed" s_law_feed ["_law_script"]) : Ok P w K mg base "_law_feed" ["_law_script"] 1 (spFeed K) := by
  obtain ⟨f, fd, F, g, b⟩ := D.ex
  have sc := sc_law_feed
  refine ⟨f, fd, g, F.kp, b, F.ok sc (fun vs H Q E h => ?_) (fun cdv A outer s H vs Q E hr h => ?_)⟩
  · obtain ⟨a, ns, rfl, _⟩ := h
    rfl
  · obtain ⟨a, ns, rfl, hS, k⟩ := h
    refine ⟨_, (pss_cons (ps_set (i := 1) sc.nd rfl (Or.inl rfl) pe_int)
    (pss_cons (ps_for PassesOwn.never rfl (pi_list (pv 0)) (pg_name (i := 2) sc.nd rfl (Or.inl rfl))
      (pss_one (ps_set (i := 1) sc.nd rfl (Or.inl rfl) (pe_op op_mod (pe_callTy call_int1 (by rfl) B.n_int (by decide +kernel) (pa_cons (pe_op op_add (pe_op op_mul (pv 1) pe_int) (pv 2)) pa_nil)) pe_int))))
    (pss_one (ps_ret (pe_lst (pa_cons (pe_callTy call_list_of (by rfl) B.n_list (by decide +kernel) (pa_cons (pv 0) pa_nil)) (pa_cons pe_int (pa_cons pe_int (pa_cons (pv 1) pa_nil))))))))), ?_⟩
    refine ⟨.ref a, rfl, a, rfl, ⟨_, hS⟩, for_list (K := K) (a := a) (xs := ns.map V.int) (fun i σ H' => ∃ (t : Int) (y2 : Option V), σ = [some (.ref a), some (.int t), y2] ∧ H' = H ∧ 0 ≤ t ∧ t < 999983)
      ⟨88811, none, rfl, rfl, by omega, by omega⟩ (fun i σ H' _ ⟨_, _, _, z, _⟩ => by rw [z]; exact hS) (fun i x σ H' hx z => ?_) (fun σ H' z => ?_)⟩
    · obtain ⟨t, y2, rfl, rfl, h0, h1⟩ := z
      rw [List.getElem?_map] at hx
      obtain ⟨c, rfl⟩ : ∃ c, x = V.int c := by
        cases e : ns[i]? with
        | none => rw [e] at hx; cases hx
        | some c => rw [e] at hx; exact ⟨c, (Option.some.inj hx).symm⟩
      refine ⟨_, rfl, _, _, rfl, rfl, .inr ⟨by omega, by omega⟩, _, rfl, _, _, rfl, rfl, .inl ⟨_, rfl, _, _, rfl, rfl, by omega, ?_⟩⟩
      exact ⟨_, _, rfl, rfl, Int.emod_nonneg _ (by omega), Int.emod_lt_of_pos _ (by omega)⟩
    · obtain ⟨t, y2, rfl, rfl, h0, h1⟩ := z
      refine ⟨.ref a, rfl, a, _, rfl, .inl hS, fun L nL => ?_⟩
      refine ⟨.int t, rfl, sizeOk (by show 4 ≤ 100000; decide), fun q nq => ?_⟩
      have s1 := Same.new (o := .lst (ns.map V.int)) nL
      exact k q L _ (s1.free nq) (s1.trans (Same.new nq)) ⟨Same.new nq _ _ upd_same, 0, 0, t, upd_same, by omega, by omega, h0, h1⟩
/-- _law_next(feed, many): below many -/
def spNext (K : PySem.W.Frag) : Sp := fun vs H Q _ => ∃ (q L : Addr) (xs : List Int) (n : Nat), vs = [.ref q, .int (n : Int)] ∧ Feed H q L xs ∧ 1 ≤ n ∧ n < 1073741824 ∧ ∀ (r : Nat) H', r < n → Keep q H H' → Feed H' q L xs → Q (.int (r : Int)) H'
theorem ok_law_next (B : Bl mg) (D : Dn K mg "_law_next" s_law_next ["_law_feed_here", "_law_many"]) : Ok P w K mg base "_law_next" ["_law_feed_here", "_law_many"] 1 (spNext K) := by
  obtain ⟨f, fd, F, g, b⟩ := D.ex
  have sc := sc_law_next
  refine ⟨f, fd, g, F.kp, b, F.ok sc (fun vs H Q E h => ?_) (fun cdv A outer s H vs Q E hr h => ?_)⟩
  · obtain ⟨q, L, xs, n, rfl, _⟩ := h
    rfl
  · obtain ⟨q, L, xs, n, rfl, hF, n1, n2, k⟩ := h
    obtain ⟨i, r, t, hq, i0, r0, t0, t1⟩ := hF.ex
    have hL := hF.own
    have Lq : L ≠ q := fun z => by
      rw [z, hq] at hL
      injection hL with hL
      injection hL with hL
      cases xs with
      | nil => cases hL
      | cons x xs => cases hL
    refine ⟨_, (pss_cons (ps_if (pt_cmpR op_eq (pe_callB call_len_seq (by rfl) B.n_len PySem.boot_len (pa_cons (pe_ix ix_list (pv 0) pe_int (fun _ _ => rfl)) pa_nil)) pe_int (nomark _)) (pss_one (ps_ret pe_int)) pss_nil)
    (Evl.pss_cut (ps_if (PW.pt (pw_and (pt_cmpR op_eq (pe_ix ix_list (pv 0) pe_int (fun _ _ => rfl)) pe_int (nomark _)) (pw_and1 (pt_cmpR op_lt (pe_ix ix_list (pv 0) pe_int (fun _ _ => rfl)) (pe_callB call_len_seq (by rfl) B.n_len PySem.boot_len (pa_cons (pe_ix ix_list (pv 0) pe_int (fun _ _ => rfl)) pa_nil)) (nomark _))))) (pss_cons (ps_set (i := 2) sc.nd rfl (Or.inl rfl) (pe_ix ix_list (pe_ix ix_list (pv 0) pe_int (fun _ _ => rfl)) (pe_ix ix_list (pv 0) pe_int (fun _ _ => rfl)) (fun _ _ => rfl)))
    (pss_cons (ps_asg (pe_op op_add (pe_ix ix_list (pv 0) pe_int (fun _ _ => rfl)) pe_int) (pg_sub (pv 0) pe_int set_list))
    (pss_one (ps_if (pt_cmpR op_ge (pe_callB call_abs (by rfl) B.n_abs (by decide +kernel) (pa_cons (pv 2) pa_nil)) (pe_op op_pow pe_int pe_int) (nomark _)) (pss_one (ps_asg (pe_op op_mod (pe_callTy call_int1 (by rfl) B.n_int (by decide +kernel) (pa_cons (pe_callB call_abs (by rfl) B.n_abs (by decide +kernel) (pa_cons (pv 2) pa_nil)) pa_nil)) (pe_op op_mulW (pe_op op_mulW (pe_op op_pow pe_int pe_int) (pe_op op_pow pe_int pe_int)) (pe_op op_pow pe_int pe_int))) (pg_sub (pv 0) pe_int set_list))) (pss_one (ps_asg (pe_op op_mod (pe_callTy call_int1 (by rfl) B.n_int (by decide +kernel) (pa_cons (pe_op op_add (pe_op op_add (pe_ix ix_list (pv 0) pe_int (fun _ _ => rfl)) (pe_op op_mul pe_int (pv 2))) (pe_op op_mul pe_int (pe_ix ix_list (pv 0) pe_int (fun _ _ => rfl)))) pa_nil)) pe_int) (pg_sub (pv 0) pe_int set_list))))))) pss_nil)
    (pss_cons (ps_if (pt_cmpR op_gt (pe_ix ix_list (pv 0) pe_int (fun _ _ => rfl)) pe_int (nomark _)) (pss_cons (ps_set (i := 3) sc.nd rfl (Or.inl rfl) (pe_ix ix_list (pv 0) pe_int (fun _ _ => rfl)))
    (pss_cons (ps_asg (pe_op op_fdiv (pv 3) (pv 1)) (pg_sub (pv 0) pe_int set_list))
    (pss_one (ps_ret (pe_op op_mod (pe_callTy call_int1 (by rfl) B.n_int (by decide +kernel) (pa_cons (pv 3) pa_nil)) (pv 1)))))) pss_nil)
    (pss_cons (ps_asg (pe_op op_mod (pe_callTy call_int1 (by rfl) B.n_int (by decide +kernel) (pa_cons (pe_op op_add (pe_op op_mul (pe_ix ix_list (pv 0) pe_int (fun _ _ => rfl)) pe_int) pe_int) pa_nil)) pe_int) (pg_sub (pv 0) pe_int set_list))
    (pss_one (ps_ret (pe_op op_mod (pe_callTy call_int1 (by rfl) B.n_int (by decide +kernel) (pa_cons (pe_op op_fdiv (pe_ix ix_list (pv 0) pe_int (fun _ _ => rfl)) pe_int) pa_nil)) (pv 1)))))))), ?_⟩
    refine ⟨.ref q, rfl, q, _, 0, .ref L, rfl, rfl, SqL.of hq, rfl, L, _, rfl, .inl (SqL.of hL), rfl, _, rfl, ite2 (fun c => ?_) (fun c => ?_)⟩
    · exact k 0 H (by omega) Keep.refl hF
    refine ⟨fun σ H' => ∃ (y2 : Option V) (i r t : Int), σ = [some (.ref q), some (.int (n : Int)), y2, none] ∧ Keep q H H' ∧ H' L = some (.lst (xs.map V.int)) ∧ H' q = some (.lst [.ref L, .int i, .int r, .int t]) ∧ 0 ≤ i ∧ 0 ≤ r ∧ 0 ≤ t ∧ t < 999983, ?_, fun σ H' z => ?_⟩
    · refine ⟨.ref q, rfl, q, _, 2, .int r, rfl, rfl, SqL.of hq, rfl, rfl, _, rfl, ite2 (fun c1 => ?_) (fun c1 => ?_)⟩
      · refine ⟨.ref q, rfl, q, _, 1, .int i, rfl, rfl, SqL.of hq, rfl, .ref q, rfl, q, _, 0, .ref L, rfl, rfl, SqL.of hq, rfl, L, _, rfl, .inl (SqL.of hL), _, _, rfl, rfl, _, rfl, ite2 (fun c2 => ?_) (fun c2 => ?_)⟩
        · have d2 := of_decide_eq_true c2
          obtain ⟨j, rfl⟩ := nat_of i0
          rw [List.length_map] at d2
          have hj : j < xs.length := by omega
          obtain ⟨c, hc⟩ : ∃ c, atI (xs.map V.int) (j : Int) = some (.int c) := ⟨xs[j], atI_nat (by rw [List.getElem?_map, List.getElem?_eq_getElem hj]; rfl)⟩
          refine ⟨.ref q, rfl, q, _, 0, .ref L, rfl, rfl, SqL.of hq, rfl, .ref q, rfl, q, _, 1, .int (j : Int), rfl, rfl, SqL.of hq, rfl, L, _, _, _, rfl, rfl, SqL.of hL, hc, ?_⟩
          refine ⟨.ref q, rfl, q, _, 1, .int (j : Int), rfl, rfl, SqL.of hq, rfl, _, _, rfl, rfl, .ref q, rfl, q, _, 1, 1, rfl, rfl, hq, rfl, ?_⟩
          have hq2 : (upd H q (.lst (([.ref L, .int (j : Int), .int r, .int t] : List V).set 1 (.int ((j : Int) + 1))))) q = some (.lst [.ref L, .int ((j : Int) + 1), .int r, .int t]) := upd_same
          have k2 : Keep q H (upd H q (.lst (([.ref L, .int (j : Int), .int r, .int t] : List V).set 1 (.int ((j : Int) + 1))))) := Keep.set Keep.refl
          have hL2 := k2 _ _ Lq hL
          generalize upd H q (.lst (([.ref L, .int (j : Int), .int r, .int t] : List V).set 1 (.int ((j : Int) + 1)))) = H2 at hq2 k2 hL2
          refine ⟨.int c, rfl, c, rfl, _, _, rfl, rfl, ⟨by decide, by decide, by decide⟩, _, _, rfl, rfl, _, rfl, ite2 (fun c3 => ?_) (fun c3 => ?_)⟩
          · refine ⟨.int c, rfl, c, rfl, .inl ⟨_, rfl, _, _, rfl, rfl, ⟨by decide, by decide, by decide⟩, _, _, rfl, rfl, ⟨by decide, by decide, by decide⟩, _, _, rfl, rfl, wide1, _, _, rfl, rfl, ⟨by decide, by decide, by decide⟩, _, _, rfl, rfl, wide2, _, _, rfl, rfl, big_pos, ?_⟩⟩
            refine ⟨.ref q, rfl, q, _, 2, 2, rfl, rfl, hq2, rfl, ?_⟩
            have pos := Int.emod_nonneg (if c < 0 then -c else c) (Int.ne_of_gt big_pos)
            exact ⟨_, _, _, _, rfl, Keep.set k2, by rw [upd_ne Lq]; exact hL2, upd_same, by omega, pos, t0, t1⟩
          · refine ⟨.ref q, rfl, q, _, 3, .int t, rfl, rfl, SqL.of hq2, rfl, .int c, rfl, _, _, rfl, rfl, .inl ⟨by omega, by omega⟩, _, _, rfl, rfl, .ref q, rfl, q, _, 1, .int ((j : Int) + 1), rfl, rfl, SqL.of hq2, rfl, _, _, rfl, rfl, .inl ⟨by omega, by omega⟩, _, _, rfl, rfl, .inl ⟨_, rfl, _, _, rfl, rfl, by omega, ?_⟩⟩
            refine ⟨.ref q, rfl, q, _, 3, 3, rfl, rfl, hq2, rfl, ?_⟩
            exact ⟨_, _, _, _, rfl, Keep.set k2, by rw [upd_ne Lq]; exact hL2, upd_same, by omega, r0, Int.emod_nonneg _ (by omega), Int.emod_lt_of_pos _ (by omega)⟩
        · exact ⟨_, i, r, t, rfl, Keep.refl, hL, hq, i0, r0, t0, t1⟩
      · exact ⟨_, i, r, t, rfl, Keep.refl, hL, hq, i0, r0, t0, t1⟩
    · obtain ⟨y2, i, r, t, rfl, kp, hL, hq, i0, r0, t0, t1⟩ := z
      refine ⟨.ref q, rfl, q, _, 2, .int r, rfl, rfl, SqL.of hq, rfl, _, _, rfl, rfl, _, rfl, ite2 (fun c => ?_) (fun c => ?_)⟩
      · refine ⟨.ref q, rfl, q, _, 2, .int r, rfl, rfl, SqL.of hq, rfl, .int r, rfl, .int (n : Int), rfl, _, _, rfl, rfl, ⟨by omega, by omega⟩, .ref q, rfl, q, _, 2, 2, rfl, rfl, hq, rfl, ?_⟩
        refine ⟨.int r, rfl, .inl ⟨_, rfl, .int (n : Int), rfl, _, _, rfl, rfl, by omega, ?_⟩⟩
        obtain ⟨m, hm, em⟩ := mod_nat (a := r) n1
        show Q (V.int (r % (n : Int))) _
        rw [em]
        refine k m _ hm (Keep.set kp) ⟨by rw [upd_ne Lq]; exact hL, i, r / (n : Int), t, upd_same, i0, ?_, t0, t1⟩
        exact Int.ediv_nonneg r0 (by omega)
      · refine ⟨.ref q, rfl, q, _, 3, .int t, rfl, rfl, SqL.of hq, rfl, _, _, rfl, rfl, .inr ⟨by omega, by omega⟩, _, _, rfl, rfl, .inl ⟨_, rfl, _, _, rfl, rfl, by omega, .ref q, rfl, q, _, 3, 3, rfl, rfl, hq, rfl, ?_⟩⟩
        have u0 := Int.emod_nonneg (t * 52361 + 30713) (show (999983 : Int) ≠ 0 by omega)
        have u1 := Int.emod_lt_of_pos (t * 52361 + 30713) (show (0 : Int) < 999983 by omega)
        have hq2 : (upd H' q (.lst (([.ref L, .int i, .int r, .int t] : List V).set 3 (.int ((t * 52361 + 30713) % 999983))))) q = some (.lst [.ref L, .int i, .int r, .int ((t * 52361 + 30713) % 999983)]) := upd_same
        have k2 : Keep q H (upd H' q (.lst (([.ref L, .int i, .int r, .int t] : List V).set 3 (.int ((t * 52361 + 30713) % 999983))))) := Keep.set kp
        have hL2 : (upd H' q (.lst (([.ref L, .int i, .int r, .int t] : List V).set 3 (.int ((t * 52361 + 30713) % 999983))))) L = some (.lst (xs.map V.int)) := by rw [upd_ne Lq]; exact hL
        generalize upd H' q (.lst (([.ref L, .int i, .int r, .int t] : List V).set 3 (.int ((t * 52361 + 30713) % 999983)))) = H2 at hq2 k2 hL2
        refine ⟨.ref q, rfl, q, _, 3, .int ((t * 52361 + 30713) % 999983), rfl, rfl, SqL.of hq2, rfl, _, _, rfl, rfl, ⟨by omega, by omega⟩, .inl ⟨_, rfl, .int (n : Int), rfl, _, _, rfl, rfl, by omega, ?_⟩⟩
        obtain ⟨m, hm, em⟩ := mod_nat (a := (t * 52361 + 30713) % 999983 / 17) n1
        show Q (V.int ((t * 52361 + 30713) % 999983 / 17 % (n : Int))) _
        rw [em]
        exact k m _ hm k2 ⟨hL2, i, r, _, hq2, i0, r0, u0, u1⟩
/-- _law_history(feed, many): a new history -/
def spHistory (K : PySem.W.Frag) : Sp := fun vs H Q _ => ∃ (q L : Addr) (xs : List Int) (n : Nat), vs = [.ref q, .int (n : Int)] ∧ Feed H q L xs ∧ n ≤ 24 ∧ ∀ p H' h, H p = none → p ≠ q → Keep q H H' → Feed H' q L xs → H' p = some (.tup (vn h)) → Hist h → h.length = n → Q (.ref p) H'
theorem hist_snoc {h : List Nat} {x : Nat} (H : Hist h) (hx : x ≤ h.length) : Hist (h ++ [x]) := fun i y e => by
  by_cases c : i < h.length
  · rw [List.getElem?_append_left c] at e
    exact H i y e
  · rw [List.getElem?_append_right (by omega)] at e
    have hi := (List.getElem?_eq_some_iff.mp e).1
    rw [List.length_singleton] at hi
    have ei : i - h.length = 0 := by omega
    rw [ei] at e
    have : x = y := Option.some.inj e
    omega
theorem ok_law_history (B : Bl mg) (D : Dn K mg "_law_history" s_law_history ["_law_feed_here", "_law_many"]) (C1 : Ok P w K mg base "_law_next" ["_law_feed_here", "_law_many"] 1 (spNext K)) : Ok P w K mg base "_law_history" ["_law_feed_here", "_law_many"] 2 (spHistory K) := by
  obtain ⟨f, fd, F, g, b⟩ := D.ex
  obtain ⟨f_law_next, fd_law_next, g_law_next, k_law_next, b_law_next, G_law_next⟩ := C1.ex
  have sc := sc_law_history
  refine ⟨f, fd, g, F.kp, b, F.ok sc (fun vs H Q E h => ?_) (fun cdv A outer s H vs Q E hr h => ?_)⟩
  · obtain ⟨q, L, xs, n, rfl, _⟩ := h
    rfl
  · obtain ⟨q, L, xs, n, rfl, hF, hn, k⟩ := h
    refine ⟨_, (pss_cons (ps_set (i := 2) sc.nd rfl (Or.inl rfl) (pe_call G_law_next (hr.mono (by decide)) (by rfl) g_law_next k_law_next b_law_next .nil pass0 (pa_cons (pv 0) (pa_cons pe_int pa_nil))))
    (pss_cons (ps_set (i := 3) sc.nd rfl (Or.inl rfl) (pe_lst pa_nil))
    (pss_cons (ps_for PassesOwn.never rfl (pi_range2 (by rfl) B.n_range (pa_cons pe_int (pa_cons (pe_op op_add (pv 1) pe_int) pa_nil))) (pg_name (i := 4) sc.nd rfl (Or.inl rfl))
      (pss_one (ps_if (pt_cmpR op_eq (pv 2) pe_int (nomark _)) (pss_one (ps_expr (pe_bm PySem.F.plainAttrs_list PySem.F.slot_list_append PySem.F.type_list_append mt_append (pv 3) (pa_cons (pe_op op_sub (pv 4) pe_int) pa_nil)))) (pss_one (ps_if (pt_cmpR op_eq (pv 2) pe_int (nomark _)) (pss_one (ps_expr (pe_bm PySem.F.plainAttrs_list PySem.F.slot_list_append PySem.F.type_list_append mt_append (pv 3) (pa_cons (pe_op op_fdiv (pe_op op_sub (pv 4) pe_int) pe_int) pa_nil)))) (pss_one (ps_if (pt_cmpR op_eq (pv 2) pe_int (nomark _)) (pss_one (ps_expr (pe_bm PySem.F.plainAttrs_list PySem.F.slot_list_append PySem.F.type_list_append mt_append (pv 3) (pa_cons (pe_call G_law_next (hr.mono (by decide)) (by rfl) g_law_next k_law_next b_law_next .nil pass0 (pa_cons (pv 0) (pa_cons (pv 4) pa_nil))) pa_nil)))) (pss_one (ps_expr (pe_bm PySem.F.plainAttrs_list PySem.F.slot_list_append PySem.F.type_list_append mt_append (pv 3) (pa_cons (pe_callB (call_max2 rfl) (by rfl) B.n_max (by decide +kernel) (pa_cons pe_int (pa_cons (pe_op op_sub (pe_op op_sub (pv 4) pe_int) (pe_op op_mod (pe_callTy call_int1 (by rfl) B.n_int (by decide +kernel) (pa_cons (pe_op op_fdiv (pv 4) pe_int) pa_nil)) pe_int)) pa_nil))) pa_nil)))))))))))
    (pss_one (ps_ret (pe_callTy call_tuple_of (by rfl) B.n_tuple (by decide +kernel) (pa_cons (pv 3) pa_nil))))))), ?_⟩
    refine ⟨.ref q, rfl, q, L, xs, 4, rfl, hF, by omega, by omega, fun sh H1 hsh k1 F1 => ?_⟩
    refine ⟨Nat.zero_le _, fun p np => ?_⟩
    have pq := F1.ne np
    have pL := F1.neL np
    have np0 := k1.free np pq
    have F2 := F1.same (Same.new (o := .lst []) np)
    have k2 : Keep q H (upd H1 p (.lst [])) := Keep.mut k1 np0
    have hp2 : (upd H1 p (.lst [])) p = some (.lst (vn [])) := upd_same
    generalize upd H1 p (.lst []) = H2 at F2 k2 hp2
    refine ⟨.int (n : Int), rfl, _, _, rfl, rfl, 1, _, rfl, ⟨by omega, by omega, by omega, by omega⟩, ?_⟩
    have en : ((n : Int) + 1 - 1).toNat = n := by omega
    rw [en]
    refine for_range (lo := 1) (n := n) (fun i σ H' => ∃ (y4 : Option V) (h : List Nat), σ = [some (.ref q), some (.int (n : Int)), some (.int (sh : Int)), some (.ref p), y4] ∧ Keep q H H' ∧ Feed H' q L xs ∧ H' p = some (.lst (vn h)) ∧ Hist h ∧ h.length = i)
      ⟨none, [], rfl, k2, F2, hp2, fun i x e => by simp at e, rfl⟩ (fun i σ H' hi z => ?_) (fun σ H' z => ?_)
    · obtain ⟨y4, h, rfl, kp, hF, hp, hH, hl⟩ := z
      have push : ∀ (H'' : Hp) (z : Int) (x : Nat), z = (x : Int) → x ≤ i → Keep q H H'' → Feed H'' q L xs → H'' p = some (.lst (vn h)) → ∃ (y4 : Option V) (h' : List Nat), ([some (.ref q), some (.int (n : Int)), some (.int (sh : Int)), some (.ref p), some (.int (1 + (i : Int)))] : L2.St) = [some (.ref q), some (.int (n : Int)), some (.int (sh : Int)), some (.ref p), y4] ∧
          Keep q H (upd H'' p (.lst (vn h ++ [.int z]))) ∧ Feed (upd H'' p (.lst (vn h ++ [.int z]))) q L xs ∧ (upd H'' p (.lst (vn h ++ [.int z]))) p = some (.lst (vn h')) ∧ Hist h' ∧ h'.length = i + 1 := fun H'' z x ez hx kp hF hp => by
        subst ez
        exact ⟨_, h ++ [x], rfl, Keep.mut kp np0, hF.mut pq pL, by rw [upd_same, vn_snoc], hist_snoc hH (by omega), by rw [List.length_append, hl]; rfl⟩
      have sz : (vn h).length < sizeLine := by rw [vn_len]; exact sizeLt (by omega)
      refine ⟨.int (sh : Int), rfl, rfl, _, rfl, ite2 (fun c => ?_) (fun c => ?_)⟩
      · exact ⟨.ref p, rfl, .inl ⟨rfl, _, SqL.of hp⟩, .int (1 + (i : Int)), rfl, _, _, rfl, rfl, p, _, _, rfl, rfl, hp, sz, push H' _ i (by omega) (Nat.le_refl _) kp hF hp⟩
      refine ⟨.int (sh : Int), rfl, rfl, _, rfl, ite2 (fun c => ?_) (fun c => ?_)⟩
      · exact ⟨.ref p, rfl, .inl ⟨rfl, _, SqL.of hp⟩, .int (1 + (i : Int)), rfl, _, _, rfl, rfl, _, _, rfl, rfl, ⟨by omega, by omega⟩, p, _, _, rfl, rfl, hp, sz, push H' _ (i / 2) (by omega) (by omega) kp hF hp⟩
      refine ⟨.int (sh : Int), rfl, rfl, _, rfl, ite2 (fun c => ?_) (fun c => ?_)⟩
      · have ez : (1 : Int) + (i : Int) = ((i + 1 : Nat) : Int) := by omega
        refine ⟨.ref p, rfl, .inl ⟨rfl, _, SqL.of hp⟩, .ref q, rfl, .int (1 + (i : Int)), rfl, q, L, xs, i + 1, by rw [ez]; rfl, hF, by omega, by omega, fun r H'' hr kp2 hF2 => ?_⟩
        have hp2 := kp2 _ _ pq hp
        exact ⟨p, _, _, rfl, rfl, hp2, sz, push H'' _ r rfl (by omega) (kp.trans kp2) hF2 hp2⟩
      · have j0 : 0 ≤ (if 1 + (i : Int) - 1 - (1 + (i : Int)) / 3 % 3 > 0 then 1 + (i : Int) - 1 - (1 + (i : Int)) / 3 % 3 else 0) := by split <;> omega
        have j1 : (if 1 + (i : Int) - 1 - (1 + (i : Int)) / 3 % 3 > 0 then 1 + (i : Int) - 1 - (1 + (i : Int)) / 3 % 3 else 0) ≤ (i : Int) := by split <;> omega
        obtain ⟨x, ex⟩ := nat_of j0
        exact ⟨.ref p, rfl, .inl ⟨rfl, _, SqL.of hp⟩, .int (1 + (i : Int)), rfl, _, _, rfl, rfl, .int (1 + (i : Int)), rfl, _, _, rfl, rfl, ⟨by omega, by omega⟩, .inl ⟨_, rfl, _, _, rfl, rfl, by omega, _, _, rfl, rfl, _, _, rfl, p, _, _, rfl, rfl, hp, sz, push H' _ x ex (by omega) kp hF hp⟩⟩
    · obtain ⟨y4, h, rfl, kp, hF, hp, hH, hl⟩ := z
      refine ⟨.ref p, rfl, p, _, rfl, .inl ⟨SqL.of hp, fun t nt => ?_⟩⟩
      have tq := hF.ne nt
      exact k t _ h (kp.free nt tq) tq (Keep.mut kp (kp.free nt tq)) (hF.same (Same.new nt)) upd_same hH hl
end
end K58

/-! K58L: the law. -/
namespace K58
open PySem PySem.Spec PyProof.Rows L2
abbrev s_law : Stmt := topS 53
abbrev N_law : List Str := ["_law_script", "_law_feed_here", "_law_many", "_law_history_here", "_law_elders_here", "_law_lean", "_law_bases", "_law_v", "_law_at", "_law_plan", "_law_most", "_law_heights_here", "_law_more", "_law_few"]
theorem sc_law : FnScope N_law ["_law_script"] (defScope s_law) := ⟨rfl, rfl, rfl, by decide +kernel, rfl, by decide +kernel, by decide +kernel⟩
structure Sit (H : Hp) (q L : Addr) (xs : List Int) (a e : Addr) (h : List Nat) (rs : List Addr) : Prop where
  f : Feed H q L xs
  t : H a = some (.tup (vn h))
  e : IsE H e h rs
theorem Sit.keep {H H' : Hp} {q L : Addr} {xs : List Int} {a e : Addr} {h : List Nat} {rs : List Addr} (S : Sit H q L xs a e h rs) (k : Keep q H H') (F : Feed H' q L xs) : Sit H' q L xs a e h rs :=
  ⟨F, k _ _ (S.f.notTup S.t) S.t, S.e.keep S.f k⟩
theorem Sit.same {H H' : Hp} {q L : Addr} {xs : List Int} {a e : Addr} {h : List Nat} {rs : List Addr} (S : Sit H q L xs a e h rs) (s : Same H H') : Sit H' q L xs a e h rs := S.keep (Keep.of s) (S.f.same s)
section
variable {P : Program} {w : World} {K : PySem.W.Frag} {mg : Str → Option Value} {base : Heap}
def spLaw (K : PySem.W.Frag) : Sp := fun vs H Q _ => ∃ (a : Addr) (ns : List Int), vs = [.ref a] ∧ SqL K H a (ns.map V.int) ∧ ns.length ≤ 63 ∧ ∀ H', Q (.bl true) H'
theorem ok_law (B : Bl mg) {f : Addr} {fd : FuncData} (F : Fun K "law" "law" s_law f fd) (C1 : Ok P w K mg base "_law_feed" ["_law_script"] 1 (spFeed K)) (C2 : Ok P w K mg base "_law_next" ["_law_feed_here", "_law_many"] 1 (spNext K))
    (C3 : Ok P w K mg base "_law_history" ["_law_feed_here", "_law_many"] 2 (spHistory K)) (C4 : Ok P w K mg base "_law_elders" ["_law_history_here"] 1 (spElders K)) (C5 : Ok P w K mg base "_law_led_right" ["_law_history_here", "_law_elders_here", "_law_bases"] 9 (spXR K))
    (C6 : Ok P w K mg base "_law_counts_right" ["_law_history_here", "_law_elders_here", "_law_bases"] 8 (spXR K)) (C7 : Ok P w K mg base "bases_by" ["history", "heights"] 4 (spBy K)) (C8 : Ok P w K mg base "heights_of" ["history", "bases"] 8 (spHof K))
    (C9 : Ok P w K mg base "_law_crossed_right" ["_law_history_here", "_law_elders_here", "_law_bases"] 7 (spXR K)) (C10 : Ok P w K mg base "_law_by_heights" ["_law_history_here", "_law_elders_here", "_law_heights_here", "_law_more"] 9 (spBH K)) (C11 : Ok P w K mg base "_law_small" ["_law_history_here"] 10 (spSmall K)) :
    FnOk P w K mg base CX0 11 f fd ["_law_script"] (spLaw K) := by
  obtain ⟨f_law_feed, fd_law_feed, g_law_feed, k_law_feed, b_law_feed, G_law_feed⟩ := C1.ex
  obtain ⟨f_law_next, fd_law_next, g_law_next, k_law_next, b_law_next, G_law_next⟩ := C2.ex
  obtain ⟨f_law_history, fd_law_history, g_law_history, k_law_history, b_law_history, G_law_history⟩ := C3.ex
  obtain ⟨f_law_elders, fd_law_elders, g_law_elders, k_law_elders, b_law_elders, G_law_elders⟩ := C4.ex
  obtain ⟨f_law_led_right, fd_law_led_right, g_law_led_right, k_law_led_right, b_law_led_right, G_law_led_right⟩ := C5.ex
  obtain ⟨f_law_counts_right, fd_law_counts_right, g_law_counts_right, k_law_counts_right, b_law_counts_right, G_law_counts_right⟩ := C6.ex
  obtain ⟨f_bases_by, fd_bases_by, g_bases_by, k_bases_by, b_bases_by, G_bases_by⟩ := C7.ex
  obtain ⟨f_heights_of, fd_heights_of, g_heights_of, k_heights_of, b_heights_of, G_heights_of⟩ := C8.ex
  obtain ⟨f_law_crossed_right, fd_law_crossed_right, g_law_crossed_right, k_law_crossed_right, b_law_crossed_right, G_law_crossed_right⟩ := C9.ex
  obtain ⟨f_law_by_heights, fd_law_by_heights, g_law_by_heights, k_law_by_heights, b_law_by_heights, G_law_by_heights⟩ := C10.ex
  obtain ⟨f_law_small, fd_law_small, g_law_small, k_law_small, b_law_small, G_law_small⟩ := C11.ex
  have sc := sc_law
  refine F.ok sc (fun vs H Q E h => ?_) (fun cdv A outer s H vs Q E hr h => ?_)
  · obtain ⟨a, ns, rfl, _⟩ := h
    rfl
  · obtain ⟨sr, xs, rfl, hS, _, k⟩ := h
    refine ⟨_, (pss_cons (ps_set (i := 1) sc.nd rfl (Or.inr rfl) (pe_call G_law_feed (hr.mono (by decide)) (by rfl) g_law_feed k_law_feed b_law_feed .nil pass0 (pa_cons (pv 0) pa_nil)))
    (pss_cons (ps_set (i := 2) sc.nd rfl (Or.inl rfl) (pe_ix ix_list (pe_lst (pa_cons pe_int (pa_cons pe_int (pa_cons pe_int (pa_cons pe_int (pa_cons pe_int (pa_cons pe_int (pa_cons pe_int (pa_cons pe_int (pa_cons pe_int (pa_cons pe_int (pa_cons pe_int (pa_cons pe_int (pa_cons pe_int (pa_cons pe_int (pa_cons pe_int (pa_cons pe_int pa_nil))))))))))))))))) (pe_call G_law_next (hr.mono (by decide)) (by rfl) g_law_next k_law_next b_law_next .nil pass0 (pa_cons (pv 1) (pa_cons pe_int pa_nil))) (fun _ _ => rfl)))
    (pss_cons (ps_set (i := 3) sc.nd rfl (Or.inl rfl) (pe_call G_law_history (hr.mono (by decide)) (by rfl) g_law_history k_law_history b_law_history .nil pass0 (pa_cons (pv 1) (pa_cons (pv 2) pa_nil))))
    (pss_cons (ps_set (i := 4) sc.nd rfl (Or.inl rfl) (pe_call G_law_elders (hr.mono (by decide)) (by rfl) g_law_elders k_law_elders b_law_elders .nil pass0 (pa_cons (pv 3) pa_nil)))
    (pss_cons (ps_set (i := 5) sc.nd rfl (Or.inl rfl) (pe_call G_law_next (hr.mono (by decide)) (by rfl) g_law_next k_law_next b_law_next .nil pass0 (pa_cons (pv 1) (pa_cons pe_int pa_nil))))
    (pss_cons (ps_set (i := 6) sc.nd rfl (Or.inl rfl) (pe_lst pa_nil))
    (pss_cons (ps_for PassesOwn.never rfl (pi_range2 (by rfl) B.n_range (pa_cons pe_int (pa_cons (pe_op op_add (pv 2) pe_int) pa_nil))) (pg_name (i := 7) sc.nd rfl (Or.inl rfl))
      (pss_cons (ps_set (i := 8) sc.nd rfl (Or.inl rfl) (pe_call G_law_next (hr.mono (by decide)) (by rfl) g_law_next k_law_next b_law_next .nil pass0 (pa_cons (pv 1) (pa_cons (pe_callB call_len_seq (by rfl) B.n_len PySem.boot_len (pa_cons (pe_ix ix_list (pv 4) (pv 7) (fun _ _ => rfl)) pa_nil)) pa_nil))))
    (Evl.pss_cut (ps_if (PW.pt (pw_and (pt_cmpR op_eq (pv 5) pe_int (nomark _)) (pw_and1 (pt_cmpR op_gt (pe_call G_law_next (hr.mono (by decide)) (by rfl) g_law_next k_law_next b_law_next .nil pass0 (pa_cons (pv 1) (pa_cons pe_int pa_nil))) pe_int (nomark _))))) (pss_one (ps_set (i := 8) sc.nd rfl (Or.inl rfl) pe_int)) pss_nil)
    (pss_one (ps_expr (pe_bm PySem.F.plainAttrs_list PySem.F.slot_list_append PySem.F.type_list_append mt_append (pv 6) (pa_cons (pe_ix ix_list (pe_ix ix_list (pv 4) (pv 7) (fun _ _ => rfl)) (pv 8) (fun _ _ => rfl)) pa_nil)))))))
    (pss_cons (ps_set (i := 6) sc.nd rfl (Or.inl rfl) (pe_callTy call_tuple_of (by rfl) B.n_tuple (by decide +kernel) (pa_cons (pv 6) pa_nil)))
    (pss_cons (ps_if (PW.pt (pw_or (pt_not (pt_val (pe_call G_law_led_right (hr.mono (by decide)) (by rfl) g_law_led_right k_law_led_right b_law_led_right .nil pass0 (pa_cons (pv 3) (pa_cons (pv 4) (pa_cons (pv 6) pa_nil)))))) (pw_or1 (pt_not (pt_val (pe_call G_law_counts_right (hr.mono (by decide)) (by rfl) g_law_counts_right k_law_counts_right b_law_counts_right .nil pass0 (pa_cons (pv 3) (pa_cons (pv 4) (pa_cons (pv 6) pa_nil))))))))) (pss_one (ps_ret pe_bl)) pss_nil)
    (pss_cons (ps_set (i := 9) sc.nd rfl (Or.inl rfl) (pe_call G_bases_by (hr.mono (by decide)) (by rfl) g_bases_by k_bases_by b_bases_by .nil pass0 (pa_cons (pv 3) (pa_cons (pe_call G_heights_of (hr.mono (by decide)) (by rfl) g_heights_of k_heights_of b_heights_of .nil pass0 (pa_cons (pv 3) (pa_cons (pv 6) pa_nil))) pa_nil))))
    (pss_cons (ps_if (PW.pt (pw_or (pt_not (pt_val (pe_call G_law_counts_right (hr.mono (by decide)) (by rfl) g_law_counts_right k_law_counts_right b_law_counts_right .nil pass0 (pa_cons (pv 3) (pa_cons (pv 4) (pa_cons (pv 9) pa_nil)))))) (pw_or1 (pt_not (pt_val (pe_call G_law_crossed_right (hr.mono (by decide)) (by rfl) g_law_crossed_right k_law_crossed_right b_law_crossed_right .nil pass0 (pa_cons (pv 3) (pa_cons (pv 4) (pa_cons (pv 9) pa_nil))))))))) (pss_one (ps_ret pe_bl)) pss_nil)
    (pss_cons (ps_set (i := 10) sc.nd rfl (Or.inr rfl) (pe_ix ix_list (pe_lst (pa_cons pe_int (pa_cons pe_int (pa_cons pe_int (pa_cons pe_int pa_nil))))) (pe_call G_law_next (hr.mono (by decide)) (by rfl) g_law_next k_law_next b_law_next .nil pass0 (pa_cons (pv 1) (pa_cons pe_int pa_nil))) (fun _ _ => rfl)))
    (pss_cons (ps_set (i := 11) sc.nd rfl (Or.inl rfl) (pe_callTy call_tuple_of (by rfl) B.n_tuple (by decide +kernel) (pa_cons (pe_lc (own := [("_law_v", 7)]) rfl sc.nd (pi_range1 (by rfl) B.n_range (pa_cons (pv 2) pa_nil)) (blkOk_by (N := N_law) (sc := defScope s_law) (by decide +kernel)) (fun _ _ _ _ _ => pg_name (i := 7) sc.nd rfl (Or.inl rfl)) (fun _ _ _ _ _ => pts_nil) (fun _ _ _ _ _ => (pe_op op_add pe_int (pe_call G_law_next (hr.mono (by decide)) (by rfl) g_law_next k_law_next b_law_next .nil pass0 (pa_cons (pv 1) (pa_cons (pv 10) pa_nil)))))) pa_nil)))
    (pss_cons (ps_set (i := 12) sc.nd rfl (Or.inl rfl) (pe_ix ix_list (pe_lst (pa_cons pe_int (pa_cons pe_int (pa_cons (pe_op op_pow pe_int pe_int) (pa_cons pe_int pa_nil))))) (pe_call G_law_next (hr.mono (by decide)) (by rfl) g_law_next k_law_next b_law_next .nil pass0 (pa_cons (pv 1) (pa_cons pe_int pa_nil))) (fun _ _ => rfl)))
    (pss_cons (ps_if (pt_not (pt_val (pe_call G_law_by_heights (hr.mono (by decide)) (by rfl) g_law_by_heights k_law_by_heights b_law_by_heights .nil pass0 (pa_cons (pv 3) (pa_cons (pv 4) (pa_cons (pv 11) (pa_cons (pv 12) pa_nil))))))) (pss_one (ps_ret pe_bl)) pss_nil)
    (pss_cons (ps_set (i := 13) sc.nd rfl (Or.inl rfl) (pe_ix ix_list (pe_lst (pa_cons pe_int (pa_cons pe_int (pa_cons pe_int (pa_cons pe_int (pa_cons pe_int (pa_cons pe_int (pa_cons pe_int (pa_cons pe_int (pa_cons pe_int (pa_cons pe_int (pa_cons pe_int (pa_cons pe_int (pa_cons pe_int (pa_cons pe_int (pa_cons pe_int (pa_cons pe_int pa_nil))))))))))))))))) (pe_call G_law_next (hr.mono (by decide)) (by rfl) g_law_next k_law_next b_law_next .nil pass0 (pa_cons (pv 1) (pa_cons pe_int pa_nil))) (fun _ _ => rfl)))
    (pss_one (ps_ret (pe_call G_law_small (hr.mono (by decide)) (by rfl) g_law_small k_law_small b_law_small .nil pass0 (pa_cons (pe_call G_law_history (hr.mono (by decide)) (by rfl) g_law_history k_law_history b_law_history .nil pass0 (pa_cons (pv 1) (pa_cons (pv 13) pa_nil))) pa_nil)))))))))))))))))))), ?_⟩
    refine ⟨.ref sr, rfl, sr, xs, rfl, hS, fun q L H1 nq s1 F1 => ?_⟩
    -- many
    refine ⟨sizeOk (by show 16 ≤ 100000; decide), fun t nt => ?_⟩
    refine ⟨.ref q, rfl, q, L, xs, 16, rfl, F1.same (Same.new nt), by omega, by omega, fun r H2 hr2 k2 F2 => ?_⟩
    have ht := k2 t _ (F1.ne nt) upd_same
    obtain ⟨n, hn, hx⟩ := pick_nat (ns := [5, 3, 6, 4, 7, 2, 5, 4, 6, 1, 3, 0, 8, 9, 7, 24]) (r := r) hr2
    have hn24 : n ≤ 24 := (show ∀ x ∈ [5, 3, 6, 4, 7, 2, 5, 4, 6, 1, 3, 0, 8, 9, 7, 24], x ≤ 24 by decide) n hn
    refine ⟨t, _, _, .int (n : Int), rfl, rfl, SqL.of ht, hx, ?_⟩
    clear hx ht
    refine ⟨.ref q, rfl, .int (n : Int), rfl, q, L, xs, n, rfl, F2, hn24, fun a H3 h na aq k3 F3 ha hH hl => ?_⟩
    refine ⟨.ref a, rfl, a, h, rfl, SqT.of ha, hH, by omega, fun e H4 rs ne s4 hE => ?_⟩
    have S4 : Sit H4 q L xs a e h rs := ⟨F3.same s4, s4 _ _ ha, hE⟩
    refine ⟨.ref q, rfl, q, L, xs, 3, rfl, S4.f, by omega, by omega, fun lean H5 hlean k5 F5 => ?_⟩
    have S5 := S4.keep k5 F5
    refine ⟨Nat.zero_le _, fun p np => ?_⟩
    have pq := F5.ne np
    have pL := F5.neL np
    have F6 := F5.same (Same.new (o := .lst []) np)
    have k6 : Keep q H5 (upd H5 p (.lst [])) := Keep.mut Keep.refl np
    have hp6 : (upd H5 p (.lst [])) p = some (.lst (vn [])) := upd_same
    generalize upd H5 p (.lst []) = H6 at F6 k6 hp6
    refine ⟨.int (n : Int), rfl, _, _, rfl, rfl, 1, _, rfl, ⟨by omega, by omega, by omega, by omega⟩, ?_⟩
    have en : ((n : Int) + 1 - 1).toNat = n := by omega
    rw [en]
    refine for_range (lo := 1) (n := n) (fun i σ H' => ∃ (y7 y8 : Option V) (b : List Nat), σ = [some (.ref sr), some (.ref q), some (.int (n : Int)), some (.ref a), some (.ref e), some (.int (lean : Int)), some (.ref p), y7, y8, none, none, none, none, none] ∧ Keep q H5 H' ∧ Feed H' q L xs ∧ H' p = some (.lst (vn b)) ∧ b.length = i ∧ ∀ j x : Nat, b[j]? = some x → x ∈ up h (j + 1))
      ⟨none, none, [], rfl, k6, F6, hp6, rfl, fun j x e => by simp at e⟩ (fun i σ H' hi z => ?_) (fun σ H' z => ?_)
    · obtain ⟨y7, y8, b, rfl, kp, hF, hp, hbl, hb⟩ := z
      have ez : (1 : Int) + (i : Int) = ((i + 1 : Nat) : Int) := by omega
      have hE' := S5.e.keep S5.f kp
      obtain ⟨r, hr1, hr2, hr3⟩ := hE'.get (v := i + 1) (by omega)
      have up1 := up_pos_len hH (v := i + 1) (by omega)
      have up2 := up_len hH (i + 1)
      refine ⟨.ref q, rfl, .ref e, rfl, .int (1 + (i : Int)), rfl, e, _, _, .ref r, rfl, rfl, SqL.of hE'.lst, by rw [ez]; exact hr2, r, _, rfl, .inl (SqL.of hr3), q, L, xs, (up h (i + 1)).length, by rw [vn_len]; rfl, hF, by omega, by omega, fun at1 H7 hat k7 F7 => ?_⟩
      have hp7 := k7 _ _ pq hp
      have k7 := kp.trans k7
      refine ⟨fun σ H' => ∃ at2 : Nat, σ = [some (.ref sr), some (.ref q), some (.int (n : Int)), some (.ref a), some (.ref e), some (.int (lean : Int)), some (.ref p), some (.int (1 + (i : Int))), some (.int (at2 : Int)), none, none, none, none, none] ∧ at2 < (up h (i + 1)).length ∧ Keep q H5 H' ∧ Feed H' q L xs ∧ H' p = some (.lst (vn b)), ?_, fun σ H8 z => ?_⟩
      · refine ⟨.int (lean : Int), rfl, rfl, _, rfl, ite2 (fun c => ?_) (fun c => ?_)⟩
        · refine ⟨.ref q, rfl, q, L, xs, 3, rfl, F7, by omega, by omega, fun r8 H8 _ k8 F8 => ?_⟩
          have hp8 := k8 _ _ pq hp7
          refine ⟨_, _, rfl, rfl, _, rfl, ite2 (fun c2 => ?_) (fun c2 => ?_)⟩
          · exact ⟨0, rfl, by omega, k7.trans k8, F8, hp8⟩
          · exact ⟨at1, rfl, hat, k7.trans k8, F8, hp8⟩
        · exact ⟨at1, rfl, hat, k7, F7, hp7⟩
      · obtain ⟨at2, rfl, hat2, k8, F8, hp8⟩ := z
        have hE8 := S5.e.keep S5.f k8
        have hr8 := hE8.at_ _ _ hr1
        have hx : (up h (i + 1))[at2]? = some ((up h (i + 1))[at2]) := List.getElem?_eq_getElem hat2
        refine ⟨.ref p, rfl, .inl ⟨rfl, _, SqL.of hp8⟩, .ref e, rfl, .int (1 + (i : Int)), rfl, e, _, _, .ref r, rfl, rfl, SqL.of hE8.lst, by rw [ez]; exact hr2, .int (at2 : Int), rfl, r, _, _, .int (((up h (i + 1))[at2] : Nat) : Int), rfl, rfl, SqL.of hr8, nat_ix hx, p, _, _, rfl, rfl, hp8, sizeLt (by rw [vn_len]; omega), ?_⟩
        refine ⟨_, _, b ++ [(up h (i + 1))[at2]], rfl, Keep.mut k8 np, F8.mut pq pL, by rw [upd_same, vn_snoc], by rw [List.length_append, hbl]; rfl, fun j x e => ?_⟩
        by_cases c : j < b.length
        · rw [List.getElem?_append_left c] at e
          exact hb j x e
        · rw [List.getElem?_append_right (by omega)] at e
          have hi' := (List.getElem?_eq_some_iff.mp e).1
          rw [List.length_singleton] at hi'
          have ej : j = i := by omega
          subst ej
          rw [hbl, Nat.sub_self] at e
          rw [← Option.some.inj e]
          exact List.getElem_mem hat2
    · obtain ⟨y7, y8, b, rfl, kp, hF, hp, hbl, hb⟩ := z
      have hB : Bas h b := ⟨by omega, hb⟩
      have hl40 : h.length ≤ 40 := by omega
      have S7 := S5.keep kp hF
      refine ⟨.ref p, rfl, p, _, rfl, .inl ⟨SqL.of hp, fun t nt => ?_⟩⟩
      have S8 := S7.same (Same.new (o := .tup (vn b)) nt)
      have tt : (upd H' t (.tup (vn b))) t = some (.tup (vn b)) := upd_same
      generalize upd H' t (.tup (vn b)) = H8 at S8 tt
      refine ⟨.ref a, rfl, .ref e, rfl, .ref t, rfl, a, e, t, h, b, rs, rfl, SqT.of S8.t, S8.e, SqT.of tt, hH, hB, hl40, fun H9 s9 => ⟨true, rfl, iteF ?_⟩⟩
      have S9 := S8.same s9
      have tt := s9 _ _ tt
      refine ⟨.ref a, rfl, .ref e, rfl, .ref t, rfl, a, e, t, h, b, rs, rfl, SqT.of S9.t, S9.e, SqT.of tt, hH, hB, hl40, fun H10 s10 => ⟨true, rfl, iteF ?_⟩⟩
      have S10 := S9.same s10
      have tt := s10 _ _ tt
      -- the plan
      refine ⟨.ref a, rfl, .ref a, rfl, .ref t, rfl, a, t, h, b, rfl, SqT.of S10.t, SqT.of tt, hH, hB, hl40, fun x H11 n11 s11 xx => ?_⟩
      have S11 := S10.same s11
      refine ⟨a, x, h, htsOf b, rfl, SqT.of S11.t, SqT.of xx, hH, htsOf_hts hB, hl40, fun pl H12 n12 s12 pp => ?_⟩
      have S12 := S11.same s12
      have hPB := higher_bas hH (htsOf b)
      refine ⟨.ref a, rfl, .ref e, rfl, .ref pl, rfl, a, e, pl, h, _, rs, rfl, SqT.of S12.t, S12.e, SqT.of pp, hH, hPB, hl40, fun H13 s13 => ⟨true, rfl, iteF ?_⟩⟩
      have S13 := S12.same s13
      have pp := s13 _ _ pp
      refine ⟨.ref a, rfl, .ref e, rfl, .ref pl, rfl, a, e, pl, h, _, rs, rfl, SqT.of S13.t, S13.e, SqT.of pp, hH, hPB, hl40, fun H14 s14 => ⟨true, rfl, iteF ?_⟩⟩
      have S14 := S13.same s14
      -- most
      refine ⟨sizeOk (by show 4 ≤ 100000; decide), fun t1 nt1 => ?_⟩
      have S15 := S14.same (Same.new (o := .lst [.int 4, .int 3, .int 99, .int 2]) nt1)
      refine ⟨.ref q, rfl, q, L, xs, 4, rfl, S15.f, by omega, by omega, fun r1 H16 hr1 k16 F16 => ?_⟩
      have ht1 := k16 t1 _ (S14.f.ne nt1) upd_same
      have S16 := S15.keep k16 F16
      obtain ⟨m, hm, hx1⟩ := pick_nat (ns := [4, 3, 99, 2]) (r := r1) hr1
      have hm1 : 1 ≤ m ∧ m ≤ 99 := (show ∀ x ∈ [4, 3, 99, 2], 1 ≤ x ∧ x ≤ 99 by decide) m hm
      refine ⟨t1, _, _, .int (m : Int), rfl, rfl, SqL.of ht1, hx1, ?_⟩
      clear hx1 ht1
      -- heights
      refine ⟨.int (n : Int), rfl, (n : Int), rfl, by omega, by omega, fun Dl nD => ?_⟩
      have Dq := S16.f.ne nD
      have DL := S16.f.neL nD
      have en2 : ((n : Nat) : Int).toNat = n := by omega
      rw [en2]
      refine lc_it (walk_range (lo := 0) (n := n)) (fun c H9 => Keep q H16 H9 ∧ Feed H9 q L xs ∧ ∃ hs : List Nat, H9 Dl = some (.lst (vn hs)) ∧ hs.length = c ∧ ∀ x ∈ hs, 1 ≤ x ∧ x ≤ 99) ⟨Keep.mut Keep.refl nD, S16.f.same (Same.new nD), [], upd_same, rfl, fun x e => by cases e⟩
        (fun _ _ _ _ => trivial) (fun c x H9 H'' hc z y => ?_) (fun H17 z => ?_)
      · obtain ⟨y1, y2⟩ := y
        subst y1
        obtain ⟨kp9, F9, hs, hD9, hl9, hb9⟩ := z
        refine ⟨rfl, .ref q, rfl, .int (m : Int), rfl, q, L, xs, m, rfl, F9, by omega, by omega, fun r9 H10 hr9 k10 F10 => ?_⟩
        have hD10 := k10 _ _ Dq hD9
        refine ⟨_, _, rfl, rfl, vn hs, hD10, sizeLt (by rw [vn_len]; omega), Keep.mut (kp9.trans k10) nD, F10.mut Dq DL, hs ++ [1 + r9], ?_, by rw [List.length_append, hl9]; rfl, fun x hx => ?_⟩
        · rw [upd_same, ← vn_snoc]
          rfl
        · rcases List.mem_append.mp hx with w1 | w1
          · exact hb9 x w1
          · rw [List.mem_singleton.mp w1]; omega
      · obtain ⟨kp9, F9, hs, hD9, hl9, hb9⟩ := z
        have S17 := S16.keep kp9 F9
        refine ⟨Dl, _, rfl, .inl ⟨SqL.of hD9, fun u nu => ?_⟩⟩
        have S18 := S17.same (Same.new (o := .tup (vn hs)) nu)
        have uu : (upd H17 u (.tup (vn hs))) u = some (.tup (vn hs)) := upd_same
        generalize upd H17 u (.tup (vn hs)) = H18 at S18 uu
        -- more
        refine ⟨_, _, rfl, rfl, ⟨by decide, by decide, by decide⟩, sizeOk (by show 4 ≤ 100000; decide), fun t2 nt2 => ?_⟩
        have S19 := S18.same (Same.new (o := .lst (vn [1, 40, 10 ^ 25, 998])) nt2)
        have uu := Same.new (o := .lst (vn [1, 40, 10 ^ 25, 998])) nt2 _ _ uu
        refine ⟨.ref q, rfl, q, L, xs, 4, rfl, S19.f, by omega, by omega, fun r2 H20 hr20 k20 F20 => ?_⟩
        have ht2 := k20 t2 _ (S18.f.ne nt2) upd_same
        have uu := k20 _ _ (S19.f.notTup uu) uu
        have S20 := S19.keep k20 F20
        obtain ⟨mo, _, hx2⟩ := pick_nat (ns := [1, 40, 10 ^ 25, 998]) (r := r2) hr20
        refine ⟨t2, _, _, .int (mo : Int), rfl, rfl, SqL.of ht2, hx2, ?_⟩
        clear hx2 ht2
        refine ⟨.ref a, rfl, .ref e, rfl, .ref u, rfl, .int (mo : Int), rfl, a, e, u, h, hs, rs, mo, rfl, SqT.of S20.t, S20.e, SqT.of uu, hH, ⟨by omega, fun x hx => (hb9 x hx).1⟩, fun x hx => Nat.le_trans (hb9 x hx).2 (by omega), hl40, fun H21 s21 => ⟨true, rfl, iteF ?_⟩⟩
        have S21 := S20.same s21
        -- few
        refine ⟨sizeOk (by show 16 ≤ 100000; decide), fun t3 nt3 => ?_⟩
        refine ⟨.ref q, rfl, q, L, xs, 16, rfl, S21.f.same (Same.new nt3), by omega, by omega, fun r3 H22 hr22 k22 F22 => ?_⟩
        have ht3 := k22 t3 _ (S21.f.ne nt3) upd_same
        obtain ⟨fw, hfw, hx3⟩ := pick_nat (ns := [3, 2, 4, 1, 4, 3, 0, 4, 3, 4, 2, 4, 3, 4, 4, 5]) (r := r3) hr22
        have hf5 : fw ≤ 5 := (show ∀ x ∈ [3, 2, 4, 1, 4, 3, 0, 4, 3, 4, 2, 4, 3, 4, 4, 5], x ≤ 5 by decide) fw hfw
        refine ⟨t3, _, _, .int (fw : Int), rfl, rfl, SqL.of ht3, hx3, ?_⟩
        clear hx3 ht3
        refine ⟨.ref q, rfl, .int (fw : Int), rfl, q, L, xs, fw, rfl, F22, by omega, fun a2 H23 h2 na2 aq2 k23 F23 ha2 hH2 hl2 => ?_⟩
        exact ⟨a2, h2, rfl, SqT.of ha2, hH2, by omega, fun H24 _ => k H24⟩
end
end K58

/-! K58Z: every def of the text is what its promise says; the row. -/
namespace K58
open PySem PySem.Spec PyProof.Rows L2
theorem dn_mk {K : PySem.W.Frag} {h : Heap} {mg : Str → Option Value} {x : Str} {st : Stmt} {ps : List Str} {f : Addr} {oc : Value} {od an : Option Addr} {osl : Array (Option Value)} {kV doc pm cdv ct : Value} (X : K.In h) (G : h.Ns mainGlobals mg)
    (a : PySem.W.nsIn K mainGlobals x = some (some (.ref f))) (l : K.lookup f = some ⟨oc, od, .func (PySem.W.fnOf x x (defArgs st) (defBody st) (defScope st) .none kV doc pm an cdv ct), osl⟩) (c : PySem.W.codeIn K cdv x = true) (k : PySem.W.keepIn K (.ref f) = true)
    (b : ∀ (kV doc pm : Value) (an : Option Addr) (cdv ct : Value) (us : List Value), us.length = ps.length → bindArgs (PySem.W.fnOf x x (defArgs st) (defBody st) (defScope st) .none kV doc pm an cdv ct) ⟨us, []⟩ = pure (ps.zip us)) : Dn K mg x st ps :=
  ⟨f, _, fun_mk (st := st) l c k, PySem.W.mg_of X G a, (fun_mk (st := st) l c k).binds b⟩
theorem dnd_mk {K : PySem.W.Frag} {h : Heap} {mg : Str → Option Value} {f T : Addr} {oc ocT : Value} {od an odT : Option Addr} {osl oslT : Array (Option Value)} {kV doc pm cdv ct : Value} {tok : Tok} {nT : Nat} (X : K.In h) (G : h.Ns mainGlobals mg)
    (a : PySem.W.nsIn K mainGlobals "check_version" = some (some (.ref f))) (l : K.lookup f = some ⟨oc, od, .func (PySem.W.fnOf "check_version" "check_version" (defArgs s_check_version) (defBody s_check_version) (defScope s_check_version) (.ref T) kV doc pm an cdv ct), osl⟩)
    (c : PySem.W.codeIn K cdv "check_version" = true) (k : PySem.W.keepIn K (.ref f) = true) (t : K.lookup T = some ⟨ocT, odT, .seq #[.int 0 tok] nT, oslT⟩) : DnD K mg "check_version" s_check_version ["history", "name", "thing", "least"] := by
  have F : FunD K "check_version" "check_version" (defArgs s_check_version) (defBody s_check_version) (defScope s_check_version) [.int 0] [] f (PySem.W.fnOf "check_version" "check_version" (defArgs s_check_version) (defBody s_check_version) (defScope s_check_version) (.ref T) kV doc pm an cdv ct) :=
    ⟨⟨oc, od, .ref T, kV, doc, pm, an, cdv, ct, osl, rfl, l, c, .inr ⟨(by simp), T, _, [.int 0 tok], nT, rfl, t, rfl, .cons ⟨tok, rfl⟩ .nil⟩, .inl rfl⟩, k⟩
  obtain ⟨ds, hv, b⟩ := FunD.binds1 (ps := ["history", "name", "thing", "least"]) F 3 0 (by simp) rfl fun T kV doc pm an cdv ct us its h1 h2 => match us, its, h1, h2 with
    | [_, _, _], [_], _, _ => ⟨_, rfl, rfl⟩
  exact ⟨f, _, ds, F, PySem.W.mg_of X G a, hv, b⟩
theorem all_ok {P : Program} {w : World} {K : PySem.W.Frag} {h : Heap} {mg : Str → Option Value} {fa f : Addr} {oc : Value} {od an : Option Addr} {osl : Array (Option Value)} {kV doc pm cdv ct : Value} (X : K.In h) (G : h.Ns mainGlobals mg) (hfa : mg "law" = some (.ref fa))
    (a : PySem.W.nsIn K mainGlobals "law" = some (some (.ref f))) (l : K.lookup f = some ⟨oc, od, .func (PySem.W.fnOf "law" "law" (defArgs s_law) (defBody s_law) (defScope s_law) .none kV doc pm an cdv ct), osl⟩) (c : PySem.W.codeIn K cdv "law" = true) (k : PySem.W.keepIn K (.ref f) = true) (B : Bl mg)
    (D1 : Dn K mg "is_integer" s_is_integer ["thing"])
    (D2 : Dn K mg "is_number" s_is_number ["thing"])
    (D3 : Dn K mg "is_natural" s_is_natural ["thing"])
    (D4 : DnD K mg "check_version" s_check_version ["history", "name", "thing", "least"])
    (D5 : Dn K mg "many_of" s_many_of ["history"])
    (D6 : Dn K mg "_upward" s_upward ["history", "version"])
    (D7 : Dn K mg "path_of" s_path_of ["history", "version"])
    (D8 : Dn K mg "is_elder" s_is_elder ["history", "one", "other"])
    (D9 : Dn K mg "is_bases" s_is_bases ["history", "thing"])
    (D10 : Dn K mg "first_crossing" s_first_crossing ["history", "bases"])
    (D11 : Dn K mg "is_plan" s_is_plan ["history", "thing"])
    (D12 : Dn K mg "crossing_of" s_crossing_of ["history", "bases"])
    (D13 : Dn K mg "ask_bases" s_ask_bases ["history", "bases"])
    (D14 : Dn K mg "ask_version" s_ask_version ["history", "word", "version", "least"])
    (D15 : Dn K mg "chain_from" s_chain_from ["bases", "version"])
    (D16 : Dn K mg "sheet_from" s_sheet_from ["history", "bases", "version"])
    (D17 : Dn K mg "chain_of" s_chain_of ["history", "bases", "version"])
    (D18 : Dn K mg "reads_by" s_reads_by ["history", "bases"])
    (D19 : Dn K mg "writes_by" s_writes_by ["history", "bases"])
    (D20 : Dn K mg "is_heights" s_is_heights ["history", "thing"])
    (D21 : Dn K mg "bases_by" s_bases_by ["history", "heights"])
    (D22 : Dn K mg "heights_of" s_heights_of ["history", "bases"])
    (D23 : Dn K mg "records_of" s_records_of ["history", "heights", "version"])
    (D24 : Dn K mg "_law_elders" s_law_elders ["_law_history_here"])
    (D25 : Dn K mg "_law_higher" s_law_higher ["_law_heights_here", "_law_elders_here"])
    (D26 : Dn K mg "_law_crossing" s_law_crossing ["_law_elders_here", "_law_bases"])
    (D27 : Dn K mg "_law_reads" s_law_reads ["_law_bases"])
    (D28 : Dn K mg "_law_heights" s_law_heights ["_law_bases"])
    (D29 : Dn K mg "_law_writes" s_law_writes ["_law_elders_here", "_law_bases"])
    (D30 : Dn K mg "_law_same" s_law_same ["_law_told", "_law_due"])
    (D31 : Dn K mg "_law_all_at_most" s_law_all_at_most ["_law_low", "_law_high"])
    (D32 : Dn K mg "_law_crossed_right" s_law_crossed_right ["_law_history_here", "_law_elders_here", "_law_bases"])
    (D33 : Dn K mg "_law_led_right" s_law_led_right ["_law_history_here", "_law_elders_here", "_law_bases"])
    (D34 : Dn K mg "_law_counts_right" s_law_counts_right ["_law_history_here", "_law_elders_here", "_law_bases"])
    (D35 : Dn K mg "_law_records_right" s_law_records_right ["_law_history_here", "_law_plan", "_law_heights_here"])
    (D36 : Dn K mg "_law_by_heights" s_law_by_heights ["_law_history_here", "_law_elders_here", "_law_heights_here", "_law_more"])
    (D37 : Dn K mg "_law_all_rows" s_law_all_rows ["_law_menus"])
    (D38 : Dn K mg "_law_small" s_law_small ["_law_history_here"])
    (D39 : Dn K mg "_law_feed" s_law_feed ["_law_script"])
    (D40 : Dn K mg "_law_next" s_law_next ["_law_feed_here", "_law_many"])
    (D41 : Dn K mg "_law_history" s_law_history ["_law_feed_here", "_law_many"])
    : ∃ fd : FuncData, (∀ (s : Shared) (v : Value), BindsTo s fd ⟨[v], []⟩ [("_law_script", v)]) ∧ ∀ base : Heap, K.In base → base.Ns mainGlobals mg → FnOk P w K mg base CX0 11 fa fd ["_law_script"] (spLaw K) := by
  have e := hfa.symm.trans (PySem.W.mg_of X G a)
  cases e
  have F := fun_mk (st := s_law) l c k
  refine ⟨PySem.W.fnOf "law" "law" (defArgs s_law) (defBody s_law) (defScope s_law) .none kV doc pm an cdv ct, fun s v => .of_eq rfl, fun base _ _ => ?_⟩
  have O1 := ok_is_integer (P := P) (w := w) (K := K) (base := base) B D1 
  have O2 := ok_is_number (P := P) (w := w) (K := K) (base := base) B D2 O1
  have O3 := ok_is_natural (P := P) (w := w) (K := K) (base := base) B D3 O1
  have O4 := ok_check_version (P := P) (w := w) (K := K) (base := base) B D4 O2
  have O5 := ok_many_of (P := P) (w := w) (K := K) (base := base) B D5 
  have O6 := ok_upward (P := P) (w := w) (K := K) (base := base) B D6 
  have O7 := ok_path_of (P := P) (w := w) (K := K) (base := base) B D7 O4 O6
  have O8 := ok_is_elder (P := P) (w := w) (K := K) (base := base) B D8 O4 O6
  have O9 := ok_is_bases (P := P) (w := w) (K := K) (base := base) B D9 O5 O2 O8
  have O10 := ok_first_crossing (P := P) (w := w) (K := K) (base := base) B D10 O5 O7
  have O11 := ok_is_plan (P := P) (w := w) (K := K) (base := base) B D11 O9 O10
  have O12 := ok_crossing_of (P := P) (w := w) (K := K) (base := base) B D12 O9 O10
  have O13 := ok_ask_bases (P := P) (w := w) (K := K) (base := base) B D13 O9
  have O14 := ok_ask_version (P := P) (w := w) (K := K) (base := base) B D14 O2 O5
  have O15 := ok_chain_from (P := P) (w := w) (K := K) (base := base) B D15 
  have O16 := ok_sheet_from (P := P) (w := w) (K := K) (base := base) B D16 O7
  have O17 := ok_chain_of (P := P) (w := w) (K := K) (base := base) B D17 O13 O14 O15
  have O18 := ok_reads_by (P := P) (w := w) (K := K) (base := base) B D18 O13
  have O19 := ok_writes_by (P := P) (w := w) (K := K) (base := base) B D19 O13 O5 O16
  have O20 := ok_is_heights (P := P) (w := w) (K := K) (base := base) B D20 O3
  have O21 := ok_bases_by (P := P) (w := w) (K := K) (base := base) B D21 O20
  have O22 := ok_heights_of (P := P) (w := w) (K := K) (base := base) B D22 O9 O18
  have O23 := ok_records_of (P := P) (w := w) (K := K) (base := base) B D23 O21 O2
  have O24 := ok_law_elders (P := P) (w := w) (K := K) (base := base) B D24 
  have O25 := ok_law_higher (P := P) (w := w) (K := K) (base := base) B D25 
  have O26 := ok_law_crossing (P := P) (w := w) (K := K) (base := base) B D26 
  have O27 := ok_law_reads (P := P) (w := w) (K := K) (base := base) B D27 
  have O28 := ok_law_heights (P := P) (w := w) (K := K) (base := base) B D28 O27
  have O29 := ok_law_writes (P := P) (w := w) (K := K) (base := base) B D29 
  have O30 := ok_law_same (P := P) (w := w) (K := K) (base := base) B D30 
  have O31 := ok_law_all_at_most (P := P) (w := w) (K := K) (base := base) B D31 
  have O32 := ok_law_crossed_right (P := P) (w := w) (K := K) (base := base) B D32 O12 O26 O11 O9 O30
  have O33 := ok_law_led_right (P := P) (w := w) (K := K) (base := base) B D33 O32 O22 O28 O21 O30 O25 O26 O31 O27 O29
  have O34 := ok_law_counts_right (P := P) (w := w) (K := K) (base := base) B D34 O30 O18 O27 O19 O29
  have O35 := ok_law_records_right (P := P) (w := w) (K := K) (base := base) B D35 O27 O23 O30 O17
  have O36 := ok_law_by_heights (P := P) (w := w) (K := K) (base := base) B D36 O21 O30 O25 O11 O22 O35
  have O37 := ok_law_all_rows (P := P) (w := w) (K := K) (base := base) B D37 
  have O38 := ok_law_small (P := P) (w := w) (K := K) (base := base) B D38 O24 O37 O33 O26 O25
  have O39 := ok_law_feed (P := P) (w := w) (K := K) (base := base) B D39 
  have O40 := ok_law_next (P := P) (w := w) (K := K) (base := base) B D40 
  have O41 := ok_law_history (P := P) (w := w) (K := K) (base := base) B D41 O40
  exact ok_law (P := P) (w := w) (K := K) (base := base) B F O39 O40 O41 O24 O33 O34 O21 O22 O32 O36 O38
end K58

open PySem PySem.W PyProof.Rows
set_option maxHeartbeats 0 in
theorem PySem.Challenge.cw_sincemarks_k58_whole_bases_by_heights_holds : PySem.Challenge.rw_sincemarks_k58_whole_bases_by_heights.Holds := by
  w_on; o_law; k_head; (case hw => w_witness2)
  k_fill
  refine L2.walk_of (l := PySem.Challenge.rw_sincemarks_k58_whole_bases_by_heights) (n := 63) (k := 11) (x := "_law_script") (CX := fun _ => L2.CX0) (sp := fun w => K58.spLaw _) rfl (by decide) rfl ⟨rfl, by decide, by decide⟩ (fun w h Y => PySem.W.kIn_of Y) ?F (fun _ _ a ns hl _ hS => ⟨a, ns, rfl, hS, hl, fun _ => rfl⟩) (fun _ _ _ _ _ h => h)
  case F =>
    intro w mg fa h KX G hmg
    refine' K58.all_ok KX G hmg ?a0 ?l0 ?c0 ?k0 ?B ?D1 ?D2 ?D3 ?D4 ?D5 ?D6 ?D7 ?D8 ?D9 ?D10 ?D11 ?D12 ?D13 ?D14 ?D15 ?D16 ?D17 ?D18 ?D19 ?D20 ?D21 ?D22 ?D23 ?D24 ?D25 ?D26 ?D27 ?D28 ?D29 ?D30 ?D31 ?D32 ?D33 ?D34 ?D35 ?D36 ?D37 ?D38 ?D39 ?D40 ?D41
    (case a0 => k_is); (case l0 => k_is); (case c0 => k_is); (case k0 => k_is)
    case B =>
      refine' ⟨PySem.W.mg_none_of KX G ?z_len, PySem.W.mg_none_of KX G ?z_tuple, PySem.W.mg_none_of KX G ?z_list, PySem.W.mg_none_of KX G ?z_int, PySem.W.mg_none_of KX G ?z_bool, PySem.W.mg_none_of KX G ?z_isinstance, PySem.W.mg_none_of KX G ?z_range, PySem.W.mg_none_of KX G ?z_reversed, PySem.W.mg_none_of KX G ?z_zip, PySem.W.mg_none_of KX G ?z_enumerate, PySem.W.mg_none_of KX G ?z_all, PySem.W.mg_none_of KX G ?z_max, PySem.W.mg_none_of KX G ?z_abs, PySem.W.mg_none_of KX G ?z_sorted, PySem.W.mg_none_of KX G ?z_set⟩
      (case z_len => k_is)
      (case z_tuple => k_is)
      (case z_list => k_is)
      (case z_int => k_is)
      (case z_bool => k_is)
      (case z_isinstance => k_is)
      (case z_range => k_is)
      (case z_reversed => k_is)
      (case z_zip => k_is)
      (case z_enumerate => k_is)
      (case z_all => k_is)
      (case z_max => k_is)
      (case z_abs => k_is)
      (case z_sorted => k_is)
      (case z_set => k_is)
    case D1 =>
      refine' K58.dn_mk KX G ?a1 ?l1 ?c1 ?k1 (fun _ _ _ _ _ _ us hl => match us, hl with | [_], _ => rfl)
      (case a1 => k_is); (case l1 => k_is); (case c1 => k_is); (case k1 => k_is)
    case D2 =>
      refine' K58.dn_mk KX G ?a2 ?l2 ?c2 ?k2 (fun _ _ _ _ _ _ us hl => match us, hl with | [_], _ => rfl)
      (case a2 => k_is); (case l2 => k_is); (case c2 => k_is); (case k2 => k_is)
    case D3 =>
      refine' K58.dn_mk KX G ?a3 ?l3 ?c3 ?k3 (fun _ _ _ _ _ _ us hl => match us, hl with | [_], _ => rfl)
      (case a3 => k_is); (case l3 => k_is); (case c3 => k_is); (case k3 => k_is)
    case D4 =>
      refine' K58.dnd_mk KX G ?a4 ?l4 ?c4 ?k4 ?t4
      (case a4 => k_is); (case l4 => k_is); (case c4 => k_is); (case k4 => k_is); (case t4 => k_is)
    case D5 =>
      refine' K58.dn_mk KX G ?a5 ?l5 ?c5 ?k5 (fun _ _ _ _ _ _ us hl => match us, hl with | [_], _ => rfl)
      (case a5 => k_is); (case l5 => k_is); (case c5 => k_is); (case k5 => k_is)
    case D6 =>
      refine' K58.dn_mk KX G ?a6 ?l6 ?c6 ?k6 (fun _ _ _ _ _ _ us hl => match us, hl with | [_, _], _ => rfl)
      (case a6 => k_is); (case l6 => k_is); (case c6 => k_is); (case k6 => k_is)
    case D7 =>
      refine' K58.dn_mk KX G ?a7 ?l7 ?c7 ?k7 (fun _ _ _ _ _ _ us hl => match us, hl with | [_, _], _ => rfl)
      (case a7 => k_is); (case l7 => k_is); (case c7 => k_is); (case k7 => k_is)
    case D8 =>
      refine' K58.dn_mk KX G ?a8 ?l8 ?c8 ?k8 (fun _ _ _ _ _ _ us hl => match us, hl with | [_, _, _], _ => rfl)
      (case a8 => k_is); (case l8 => k_is); (case c8 => k_is); (case k8 => k_is)
    case D9 =>
      refine' K58.dn_mk KX G ?a9 ?l9 ?c9 ?k9 (fun _ _ _ _ _ _ us hl => match us, hl with | [_, _], _ => rfl)
      (case a9 => k_is); (case l9 => k_is); (case c9 => k_is); (case k9 => k_is)
    case D10 =>
      refine' K58.dn_mk KX G ?a10 ?l10 ?c10 ?k10 (fun _ _ _ _ _ _ us hl => match us, hl with | [_, _], _ => rfl)
      (case a10 => k_is); (case l10 => k_is); (case c10 => k_is); (case k10 => k_is)
    case D11 =>
      refine' K58.dn_mk KX G ?a11 ?l11 ?c11 ?k11 (fun _ _ _ _ _ _ us hl => match us, hl with | [_, _], _ => rfl)
      (case a11 => k_is); (case l11 => k_is); (case c11 => k_is); (case k11 => k_is)
    case D12 =>
      refine' K58.dn_mk KX G ?a12 ?l12 ?c12 ?k12 (fun _ _ _ _ _ _ us hl => match us, hl with | [_, _], _ => rfl)
      (case a12 => k_is); (case l12 => k_is); (case c12 => k_is); (case k12 => k_is)
    case D13 =>
      refine' K58.dn_mk KX G ?a13 ?l13 ?c13 ?k13 (fun _ _ _ _ _ _ us hl => match us, hl with | [_, _], _ => rfl)
      (case a13 => k_is); (case l13 => k_is); (case c13 => k_is); (case k13 => k_is)
    case D14 =>
      refine' K58.dn_mk KX G ?a14 ?l14 ?c14 ?k14 (fun _ _ _ _ _ _ us hl => match us, hl with | [_, _, _, _], _ => rfl)
      (case a14 => k_is); (case l14 => k_is); (case c14 => k_is); (case k14 => k_is)
    case D15 =>
      refine' K58.dn_mk KX G ?a15 ?l15 ?c15 ?k15 (fun _ _ _ _ _ _ us hl => match us, hl with | [_, _], _ => rfl)
      (case a15 => k_is); (case l15 => k_is); (case c15 => k_is); (case k15 => k_is)
    case D16 =>
      refine' K58.dn_mk KX G ?a16 ?l16 ?c16 ?k16 (fun _ _ _ _ _ _ us hl => match us, hl with | [_, _, _], _ => rfl)
      (case a16 => k_is); (case l16 => k_is); (case c16 => k_is); (case k16 => k_is)
    case D17 =>
      refine' K58.dn_mk KX G ?a17 ?l17 ?c17 ?k17 (fun _ _ _ _ _ _ us hl => match us, hl with | [_, _, _], _ => rfl)
      (case a17 => k_is); (case l17 => k_is); (case c17 => k_is); (case k17 => k_is)
    case D18 =>
      refine' K58.dn_mk KX G ?a18 ?l18 ?c18 ?k18 (fun _ _ _ _ _ _ us hl => match us, hl with | [_, _], _ => rfl)
      (case a18 => k_is); (case l18 => k_is); (case c18 => k_is); (case k18 => k_is)
    case D19 =>
      refine' K58.dn_mk KX G ?a19 ?l19 ?c19 ?k19 (fun _ _ _ _ _ _ us hl => match us, hl with | [_, _], _ => rfl)
      (case a19 => k_is); (case l19 => k_is); (case c19 => k_is); (case k19 => k_is)
    case D20 =>
      refine' K58.dn_mk KX G ?a20 ?l20 ?c20 ?k20 (fun _ _ _ _ _ _ us hl => match us, hl with | [_, _], _ => rfl)
      (case a20 => k_is); (case l20 => k_is); (case c20 => k_is); (case k20 => k_is)
    case D21 =>
      refine' K58.dn_mk KX G ?a21 ?l21 ?c21 ?k21 (fun _ _ _ _ _ _ us hl => match us, hl with | [_, _], _ => rfl)
      (case a21 => k_is); (case l21 => k_is); (case c21 => k_is); (case k21 => k_is)
    case D22 =>
      refine' K58.dn_mk KX G ?a22 ?l22 ?c22 ?k22 (fun _ _ _ _ _ _ us hl => match us, hl with | [_, _], _ => rfl)
      (case a22 => k_is); (case l22 => k_is); (case c22 => k_is); (case k22 => k_is)
    case D23 =>
      refine' K58.dn_mk KX G ?a23 ?l23 ?c23 ?k23 (fun _ _ _ _ _ _ us hl => match us, hl with | [_, _, _], _ => rfl)
      (case a23 => k_is); (case l23 => k_is); (case c23 => k_is); (case k23 => k_is)
    case D24 =>
      refine' K58.dn_mk KX G ?a24 ?l24 ?c24 ?k24 (fun _ _ _ _ _ _ us hl => match us, hl with | [_], _ => rfl)
      (case a24 => k_is); (case l24 => k_is); (case c24 => k_is); (case k24 => k_is)
    case D25 =>
      refine' K58.dn_mk KX G ?a25 ?l25 ?c25 ?k25 (fun _ _ _ _ _ _ us hl => match us, hl with | [_, _], _ => rfl)
      (case a25 => k_is); (case l25 => k_is); (case c25 => k_is); (case k25 => k_is)
    case D26 =>
      refine' K58.dn_mk KX G ?a26 ?l26 ?c26 ?k26 (fun _ _ _ _ _ _ us hl => match us, hl with | [_, _], _ => rfl)
      (case a26 => k_is); (case l26 => k_is); (case c26 => k_is); (case k26 => k_is)
    case D27 =>
      refine' K58.dn_mk KX G ?a27 ?l27 ?c27 ?k27 (fun _ _ _ _ _ _ us hl => match us, hl with | [_], _ => rfl)
      (case a27 => k_is); (case l27 => k_is); (case c27 => k_is); (case k27 => k_is)
    case D28 =>
      refine' K58.dn_mk KX G ?a28 ?l28 ?c28 ?k28 (fun _ _ _ _ _ _ us hl => match us, hl with | [_], _ => rfl)
      (case a28 => k_is); (case l28 => k_is); (case c28 => k_is); (case k28 => k_is)
    case D29 =>
      refine' K58.dn_mk KX G ?a29 ?l29 ?c29 ?k29 (fun _ _ _ _ _ _ us hl => match us, hl with | [_, _], _ => rfl)
      (case a29 => k_is); (case l29 => k_is); (case c29 => k_is); (case k29 => k_is)
    case D30 =>
      refine' K58.dn_mk KX G ?a30 ?l30 ?c30 ?k30 (fun _ _ _ _ _ _ us hl => match us, hl with | [_, _], _ => rfl)
      (case a30 => k_is); (case l30 => k_is); (case c30 => k_is); (case k30 => k_is)
    case D31 =>
      refine' K58.dn_mk KX G ?a31 ?l31 ?c31 ?k31 (fun _ _ _ _ _ _ us hl => match us, hl with | [_, _], _ => rfl)
      (case a31 => k_is); (case l31 => k_is); (case c31 => k_is); (case k31 => k_is)
    case D32 =>
      refine' K58.dn_mk KX G ?a32 ?l32 ?c32 ?k32 (fun _ _ _ _ _ _ us hl => match us, hl with | [_, _, _], _ => rfl)
      (case a32 => k_is); (case l32 => k_is); (case c32 => k_is); (case k32 => k_is)
    case D33 =>
      refine' K58.dn_mk KX G ?a33 ?l33 ?c33 ?k33 (fun _ _ _ _ _ _ us hl => match us, hl with | [_, _, _], _ => rfl)
      (case a33 => k_is); (case l33 => k_is); (case c33 => k_is); (case k33 => k_is)
    case D34 =>
      refine' K58.dn_mk KX G ?a34 ?l34 ?c34 ?k34 (fun _ _ _ _ _ _ us hl => match us, hl with | [_, _, _], _ => rfl)
      (case a34 => k_is); (case l34 => k_is); (case c34 => k_is); (case k34 => k_is)
    case D35 =>
      refine' K58.dn_mk KX G ?a35 ?l35 ?c35 ?k35 (fun _ _ _ _ _ _ us hl => match us, hl with | [_, _, _], _ => rfl)
      (case a35 => k_is); (case l35 => k_is); (case c35 => k_is); (case k35 => k_is)
    case D36 =>
      refine' K58.dn_mk KX G ?a36 ?l36 ?c36 ?k36 (fun _ _ _ _ _ _ us hl => match us, hl with | [_, _, _, _], _ => rfl)
      (case a36 => k_is); (case l36 => k_is); (case c36 => k_is); (case k36 => k_is)
    case D37 =>
      refine' K58.dn_mk KX G ?a37 ?l37 ?c37 ?k37 (fun _ _ _ _ _ _ us hl => match us, hl with | [_], _ => rfl)
      (case a37 => k_is); (case l37 => k_is); (case c37 => k_is); (case k37 => k_is)
    case D38 =>
      refine' K58.dn_mk KX G ?a38 ?l38 ?c38 ?k38 (fun _ _ _ _ _ _ us hl => match us, hl with | [_], _ => rfl)
      (case a38 => k_is); (case l38 => k_is); (case c38 => k_is); (case k38 => k_is)
    case D39 =>
      refine' K58.dn_mk KX G ?a39 ?l39 ?c39 ?k39 (fun _ _ _ _ _ _ us hl => match us, hl with | [_], _ => rfl)
      (case a39 => k_is); (case l39 => k_is); (case c39 => k_is); (case k39 => k_is)
    case D40 =>
      refine' K58.dn_mk KX G ?a40 ?l40 ?c40 ?k40 (fun _ _ _ _ _ _ us hl => match us, hl with | [_, _], _ => rfl)
      (case a40 => k_is); (case l40 => k_is); (case c40 => k_is); (case k40 => k_is)
    case D41 =>
      refine' K58.dn_mk KX G ?a41 ?l41 ?c41 ?k41 (fun _ _ _ _ _ _ us hl => match us, hl with | [_, _], _ => rfl)
      (case a41 => k_is); (case l41 => k_is); (case c41 => k_is); (case k41 => k_is)
